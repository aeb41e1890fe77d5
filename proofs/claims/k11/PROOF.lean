import PyProof.Rows.All
import Wide.All
import OpenK.AllK
import Wide.FinOn
import HandS.ForMost
import HandS.ForExc
import HandS.CallSlots
import HandS.ClsMeth
import HandS.Lambda
import KE.KNestM
import HandS.Wide
import HandS.TupAny
import HandS.Deep
import HandS.IsInst
import HandS.More
import HandS.StrMore
import HandS.Flow
import HandS.Iter
import HandS.RevRange
import HandS.Defaults
import HandS.OwnEq
import HandS.Text
import HandS.WordsExc
import KE.KOpsOwn
import KE.KCallOwn
import HandS.SlotsOwn
import HandS.RaiseMore
import HandS.Small
import HandS.Style
import HandS.TryOnly
import HandS.ExcInit
import HandS.ExcField
import HandS.FStr
import HandS.StrSplit
import KE.SortKeyHeap
import KE.KSortKey
import HandS.EndTab
import HandS.HeadWalk
import KE.KRevSl
import HandS.HotCalls
import KE.GoesEnum
import HandS.SetFor
import HandS.Dict
import HandS.Conv
import HandS.NoneIn
import HandS.SetBool
import HandS.Star
import HandS.TupLe
import HandS.MakeKwOnly
import HandS.ReplaceLit
import HandS.ReplaceDef
import PyProof.EqAt
import HandS.OwnIter
import HandS.IterVal
import PySem.Challenge.RW_neededlaws_k11_texts_of_ways
set_option Elab.async false
set_option linter.all false
set_option maxRecDepth 100000
/-! DL: plain data over the abstract heap. -/
namespace DL
open PySem PySem.Spec L2
open PyProof.Rows hiding St

/-- plain data; a text is its codes; an object carries its class's name, its attributes' names and values -/
inductive D where
  | non
  | bl (b : Bool)
  | int (i : Int)
  | str (x : List Nat)
  | tup (ds : List D)
  | lst (ds : List D)
  | flst (ds : List D)
  | obj (C : String) (ns : List String) (ds : List D)
  | dic (ks : List D) (ds : List D)
  | glo (x : String)
  | ty (n : String)
  | exn (C : String) (ns : List String) (ds : List D) (x d : Addr)
  | cell (n : Nat)

/-- what stands in a changeable place -/
inductive MO where
  | lst (ds : List D)
  | obj (C : String) (ns : List String) (ds : List D)
  | dic (ks : List D) (ds : List D)
  /-- place i is the table of the code of C.m -/
  | tab (i : Nat) (C m : String)

abbrev MS := List MO

/-- how a piece of the program ends -/
inductive Res (A : Type) where
  | ok (a : A) (M : MS)
  | exc (C : String) (ns : List String) (ds : List D) (M : MS)
  | stuck

def Res.bind {A B : Type} (x : Res A) (k : A → MS → Res B) : Res B :=
  match x with
  | .ok a M => k a M
  | .exc C ns ds M => .exc C ns ds M
  | .stuck => .stuck
@[simp] theorem Res.bind_ok {A B : Type} (a : A) (M : MS) (k : A → MS → Res B) : (Res.ok a M).bind k = k a M := rfl
@[simp] theorem Res.bind_exc {A B : Type} (C : String) (ns : List String) (ds : List D) (M : MS) (k : A → MS → Res B) : (Res.exc C ns ds M : Res A).bind k = .exc C ns ds M := rfl
@[simp] theorem Res.bind_stuck {A B : Type} (k : A → MS → Res B) : (Res.stuck : Res A).bind k = .stuck := rfl

/-- the places that are looked through: changeable ones by number, and hidden ones -/
structure Pl where
  ro : List Addr
  hid : List Addr
abbrev Pl.all (p : Pl) : List Addr := p.ro ++ p.hid
abbrev tx (x : List Nat) : Str := ⟨x.toArray⟩
def zipF (ns : List String) (vs : List V) : List (Str × V) := (ns.map Str.ofString).zip vs

/-- a key of a dict, as data -/
def keyD : D → Option Key
  | .int i => some (.inl i)
  | .str x => some (.inr (tx x))
  | _ => none
def keysD : List D → Option (List Key)
  | [] => some []
  | d :: r => match keyD d, keysD r with
    | some k, some l => some (k :: l)
    | _, _ => none

def KL (K : PySem.W.Frag) (a : Addr) (xs : List V) : Prop :=
  ∃ (o : Obj) (its : Array Value) (n : Nat), K.lookup a = some o ∧ o.cls = .type "list" ∧ o.dict = none ∧ o.data = .seq its n ∧ its.size ≤ sizeLine ∧ Vals xs its.toList
def KT (K : PySem.W.Frag) (a : Addr) (xs : List V) : Prop :=
  ∃ (o : Obj) (its : Array Value) (n : Nat), K.lookup a = some o ∧ o.cls = .type "tuple" ∧ o.data = .seq its n ∧ its.size ≤ sizeLine ∧ Vals xs its.toList
/-- a list, a tuple that stays as it is: no changeable place, or one of the written part -/
def SL (K : PySem.W.Frag) (ro : Pl) (H : Hp) (a : Addr) (xs : List V) : Prop := (Rd H a (.lst xs) ∧ a ∉ ro.all) ∨ KL K a xs
def ST (K : PySem.W.Frag) (ro : Pl) (H : Hp) (a : Addr) (xs : List V) : Prop := (Rd H a (.tup xs) ∧ a ∉ ro.all) ∨ KT K a xs
theorem SL.sq {K : PySem.W.Frag} {ro : Pl} {H : Hp} {a : Addr} {xs : List V} (h : SL K ro H a xs) : SqL K H a xs := by
  rcases h with ⟨h, _⟩ | h
  · exact .inl h
  · exact .inr h
theorem ST.sq {K : PySem.W.Frag} {ro : Pl} {H : Hp} {a : Addr} {xs : List V} (h : ST K ro H a xs) : SqT K H a xs := by
  rcases h with ⟨h, _⟩ | h
  · exact .inl h
  · exact .inr h

mutual
/-- the value v stands for the datum, with the changeable places at ro -/
def Rep (K : PySem.W.Frag) (mg : Str → Option Value) (ro : Pl) (H : Hp) : D → V → Prop
  | .non, v => v = .non
  | .bl b, v => v = .bl b
  | .int i, v => v = .int i
  | .str x, v => v = .str (tx x)
  | .tup ds, v => ∃ a vs, v = .ref a ∧ ST K ro H a vs ∧ Reps K mg ro H ds vs
  | .lst ds, v => ∃ a vs, v = .ref a ∧ H a = some (.lst vs) ∧ a ∉ ro.all ∧ Reps K mg ro H ds vs
  | .flst ds, v => ∃ a vs, v = .ref a ∧ SL K ro H a vs ∧ Reps K mg ro H ds vs
  | .obj C ns ds, v => ∃ a c dx vs, v = .ref a ∧ mg (Str.ofString C) = some (.ref c) ∧ H a = some (.ins c dx (zipF ns vs)) ∧ a ∉ ro.all ∧ ns.length = vs.length ∧ Reps K mg ro H ds vs
  | .dic ks ds, v => ∃ a kl vs, v = .ref a ∧ keysD ks = some kl ∧ kl.length = vs.length ∧ H a = some (.dK (kl.zip vs)) ∧ a ∉ ro.all ∧ Reps K mg ro H ds vs
  | .glo x, v => ∃ a, v = .ref a ∧ mg (Str.ofString x) = some (.ref a)
  | .ty n, v => v = .ty n
  | .exn C ns ds x d, v => ∃ a vs, (v = .ref a ∧ a = x) ∧ H d = some (.xd (zipF ns vs)) ∧ d ∉ ro.all ∧ ns.length = vs.length ∧ Reps K mg ro H ds vs
  | .cell n, v => ∃ a, v = .ref a ∧ ro.ro[n]? = some a
def Reps (K : PySem.W.Frag) (mg : Str → Option Value) (ro : Pl) (H : Hp) : List D → List V → Prop
  | [], vs => vs = []
  | d :: ds, vs => ∃ v r, vs = v :: r ∧ Rep K mg ro H d v ∧ Reps K mg ro H ds r
end

/-- what was tracked outside of the changeable places stands; changeable places are old ones or new -/
structure Pres (ro : Pl) (H : Hp) (ro' : Pl) (H' : Hp) : Prop where
  pre : ∃ t, ro'.ro = ro.ro ++ t
  hid : ro'.hid = ro.hid
  keep : ∀ a o, H a = some o → a ∉ ro.ro → H' a = some o
  new : ∀ a, a ∈ ro'.ro → a ∈ ro.ro ∨ H a = none
theorem Pres.refl (ro : Pl) (H : Hp) : Pres ro H ro H := ⟨⟨[], by simp⟩, rfl, fun _ _ h _ => h, fun _ h => .inl h⟩
theorem Pres.mem {ro ro' : Pl} {H H' : Hp} (p : Pres ro H ro' H') {a : Addr} (h : a ∈ ro.ro) : a ∈ ro'.ro := by
  obtain ⟨t, e⟩ := p.pre
  rw [e]; exact List.mem_append_left _ h
theorem Pres.trans {r0 r1 r2 : Pl} {H0 H1 H2 : Hp} (p : Pres r0 H0 r1 H1) (q : Pres r1 H1 r2 H2) : Pres r0 H0 r2 H2 := by
  refine ⟨?_, q.hid.trans p.hid, fun a o h hn => ?_, fun a h => ?_⟩
  · obtain ⟨t, e⟩ := p.pre
    obtain ⟨u, e'⟩ := q.pre
    exact ⟨t ++ u, by rw [e', e, List.append_assoc]⟩
  · refine q.keep a o (p.keep a o h hn) fun hm => ?_
    rcases p.new a hm with z | z
    · exact hn z
    · rw [h] at z; cases z
  · rcases q.new a h with z | z
    · exact p.new a z
    · by_cases hm : a ∈ r0.ro
      · exact .inl hm
      · refine .inr ?_
        cases e : H0 a with
        | none => rfl
        | some o => rw [p.keep a o e hm] at z; cases z
theorem Pl.out_ro {p : Pl} {a : Addr} (h : a ∉ p.all) : a ∉ p.ro := fun z => h (List.mem_append_left _ z)
theorem Pl.out_hid {p : Pl} {a : Addr} (h : a ∉ p.all) : a ∉ p.hid := fun z => h (List.mem_append_right _ z)
theorem Pres.out {ro ro' : Pl} {H H' : Hp} (p : Pres ro H ro' H') {a : Addr} (hn : a ∉ ro.all) (hl : H a ≠ none) : a ∉ ro'.all := fun hm => by
  rcases List.mem_append.mp hm with hm | hm
  · rcases p.new a hm with z | z
    · exact Pl.out_ro hn z
    · exact hl z
  · rw [p.hid] at hm; exact Pl.out_hid hn hm
theorem Pres.get {ro ro' : Pl} {H H' : Hp} (p : Pres ro H ro' H') {n : Nat} {a : Addr} (h : ro.ro[n]? = some a) : ro'.ro[n]? = some a := by
  obtain ⟨t, e⟩ := p.pre
  rw [e, List.getElem?_append_left (List.getElem?_eq_some_iff.mp h).1]
  exact h

/-- the same where more may be hidden -/
structure PresW (ro : Pl) (H : Hp) (ro' : Pl) (H' : Hp) : Prop where
  pre : ∃ t, ro'.ro = ro.ro ++ t
  keep : ∀ a o, H a = some o → a ∉ ro.all → H' a = some o
  new : ∀ a, a ∈ ro'.all → a ∈ ro.all ∨ H a = none
theorem Pres.w {ro ro' : Pl} {H H' : Hp} (p : Pres ro H ro' H') : PresW ro H ro' H' := ⟨p.pre, fun a o h n => p.keep a o h (Pl.out_ro n), fun a h => by
  rcases List.mem_append.mp h with h | h
  · rcases p.new a h with z | z
    · exact .inl (List.mem_append_left _ z)
    · exact .inr z
  · rw [p.hid] at h; exact .inl (List.mem_append_right _ h)⟩
theorem PresW.out {ro ro' : Pl} {H H' : Hp} (p : PresW ro H ro' H') {a : Addr} (hn : a ∉ ro.all) (hl : H a ≠ none) : a ∉ ro'.all := fun hm => by
  rcases p.new a hm with z | z
  · exact hn z
  · exact hl z
theorem PresW.get {ro ro' : Pl} {H H' : Hp} (p : PresW ro H ro' H') {n : Nat} {a : Addr} (h : ro.ro[n]? = some a) : ro'.ro[n]? = some a := by
  obtain ⟨t, e⟩ := p.pre
  rw [e, List.getElem?_append_left (List.getElem?_eq_some_iff.mp h).1]
  exact h
section
variable {K : PySem.W.Frag} {mg : Str → Option Value} {ro ro' : Pl} {H H' : Hp}
theorem PresW.rd (p : PresW ro H ro' H') {a : Addr} {u : HO} (h : Rd H a u) (hn : a ∉ ro.all) : Rd H' a u ∧ a ∉ ro'.all := by
  rcases h with h | ⟨o, h⟩
  · exact ⟨.inl (p.keep a _ h hn), p.out hn (by rw [h]; simp)⟩
  · exact ⟨.inr ⟨o, p.keep a _ h hn⟩, p.out hn (by rw [h]; simp)⟩
theorem PresW.sl (p : PresW ro H ro' H') {a : Addr} {vs : List V} (h : SL K ro H a vs) : SL K ro' H' a vs := by
  rcases h with ⟨h, n⟩ | h
  · exact .inl (p.rd h n)
  · exact .inr h
theorem PresW.st (p : PresW ro H ro' H') {a : Addr} {vs : List V} (h : ST K ro H a vs) : ST K ro' H' a vs := by
  rcases h with ⟨h, n⟩ | h
  · exact .inl (p.rd h n)
  · exact .inr h
mutual
theorem Rep.monoW (p : PresW ro H ro' H') : ∀ (d : D) (v : V), Rep K mg ro H d v → Rep K mg ro' H' d v
  | .non, v, h => h
  | .bl b, v, h => h
  | .int i, v, h => h
  | .str x, v, h => h
  | .tup ds, v, ⟨a, vs, e, q, r⟩ => ⟨a, vs, e, p.st q, Reps.monoW p ds vs r⟩
  | .lst ds, v, ⟨a, vs, e, q, n, r⟩ => ⟨a, vs, e, p.keep a _ q n, p.out n (by rw [q]; simp), Reps.monoW p ds vs r⟩
  | .flst ds, v, ⟨a, vs, e, q, r⟩ => ⟨a, vs, e, p.sl q, Reps.monoW p ds vs r⟩
  | .obj C ns ds, v, ⟨a, c, dx, vs, e, g, q, n, l, r⟩ => ⟨a, c, dx, vs, e, g, p.keep a _ q n, p.out n (by rw [q]; simp), l, Reps.monoW p ds vs r⟩
  | .dic ks ds, v, ⟨a, kl, vs, e, g, l, q, n, r⟩ => ⟨a, kl, vs, e, g, l, p.keep a _ q n, p.out n (by rw [q]; simp), Reps.monoW p ds vs r⟩
  | .glo x, v, h => h
  | .ty n, v, h => h
  | .exn C ns ds x d, v, ⟨a, vs, e, q, n, l, r⟩ => ⟨a, vs, e, p.keep d _ q n, p.out n (by rw [q]; simp), l, Reps.monoW p ds vs r⟩
  | .cell n, v, ⟨a, e, g⟩ => ⟨a, e, p.get g⟩
theorem Reps.monoW (p : PresW ro H ro' H') : ∀ (ds : List D) (vs : List V), Reps K mg ro H ds vs → Reps K mg ro' H' ds vs
  | [], vs, h => h
  | d :: ds, vs, ⟨v, r, e, h, t⟩ => ⟨v, r, e, Rep.monoW p d v h, Reps.monoW p ds r t⟩
end
theorem Rep.mono (p : Pres ro H ro' H') (d : D) (v : V) (h : Rep K mg ro H d v) : Rep K mg ro' H' d v := Rep.monoW p.w d v h
theorem Reps.mono (p : Pres ro H ro' H') (ds : List D) (vs : List V) (h : Reps K mg ro H ds vs) : Reps K mg ro' H' ds vs := Reps.monoW p.w ds vs h
end

/-- the def at g has the table P -/
def TabOf (K : PySem.W.Frag) (g P : Addr) : Prop := ∃ (oc : Value) (od : Option Addr) (fd : FuncData) (sl : Array (Option Value)) (c : Addr), K.lookup g = some ⟨oc, od, .func fd, sl⟩ ∧ fd.code = .ref c ∧ PySem.W.codeHdIn K c P = true
/-- the table of the classmethod C.m, of the def m -/
def IsTab (K : PySem.W.Frag) (mg : Str → Option Value) (C m : String) (P : Addr) : Prop :=
  (C = "" ∧ ∃ g, mg (Str.ofString m) = some (.ref g) ∧ TabOf K g P) ∨
  (C ≠ "" ∧ ∃ c p g rest, mg (Str.ofString C) = some (.ref c) ∧ PySem.W.findCls K (.ref c) (.type "type") (Str.ofString m) = some (.get (.builtin "classmethod.__get__") (.ref p) .none (.ref c)) ∧ PySem.W.recIn K p "classmethod" = some (.ref g :: rest) ∧ TabOf K g P)
theorem TabOf.one {K : PySem.W.Frag} {g P P' : Addr} (h : TabOf K g P) (h' : TabOf K g P') : P = P' := by
  obtain ⟨oc, od, fd, sl, c, l, e, k⟩ := h
  obtain ⟨oc', od', fd', sl', c', l', e', k'⟩ := h'
  rw [l] at l'; cases l'
  rw [e] at e'; cases e'
  unfold PySem.W.codeHdIn at k k'
  split at k
  · rename_i vs sl hk
    rw [hk] at k'
    simp only [Bool.and_eq_true] at k k'
    obtain ⟨⟨⟨⟨⟨e1, _⟩, _⟩, _⟩, _⟩, _⟩ := k
    obtain ⟨⟨⟨⟨⟨e2, _⟩, _⟩, _⟩, _⟩, _⟩ := k'
    split at e1
    · rename_i q hq
      rw [hq] at e2
      simp at e1 e2
      exact e1.symm.trans e2
    · cases e1
  · cases k
theorem IsTab.one {K : PySem.W.Frag} {mg : Str → Option Value} {C m : String} {P P' : Addr} (h : IsTab K mg C m P) (h' : IsTab K mg C m P') : P = P' := by
  rcases h with ⟨e, g, h1, h2⟩ | ⟨e, c, p, g, rest, h1, h2, h3, h4⟩
  · rcases h' with ⟨_, g', h1', h2'⟩ | ⟨e', _⟩
    · rw [h1] at h1'; cases h1'; exact h2.one h2'
    · exact absurd e e'
  · rcases h' with ⟨e', _⟩ | ⟨_, c', p', g', rest', h1', h2', h3', h4'⟩
    · exact absurd e' e
    · rw [h1] at h1'; cases h1'
      rw [h2] at h2'; cases h2'
      rw [h3] at h3'; cases h3'
      exact h4.one h4'
/-- the name of the code that the def C.m's lambda has -/
def lamQ (C m : String) : Str := (if C = "" then Str.ofString m else Str.ofString C ++ "." ++ Str.ofString m) ++ ".<locals>." ++ "<lambda>"
/-- what stands at a changeable place -/
def MRel (K : PySem.W.Frag) (mg : Str → Option Value) (ro : Pl) (H : Hp) : MO → HO → Prop
  | .lst ds, ho => ∃ vs, ho = .lst vs ∧ Reps K mg ro H ds vs
  | .obj C ns ds, ho => ∃ c dx vs, ho = .ins c dx (zipF ns vs) ∧ mg (Str.ofString C) = some (.ref c) ∧ ns.length = vs.length ∧ Reps K mg ro H ds vs
  | .dic ks ds, ho => ∃ kl vs, ho = .dK (kl.zip vs) ∧ keysD ks = some kl ∧ kl.length = vs.length ∧ Reps K mg ro H ds vs
  | .tab i C m, ho => ∃ ps P, ho = .tbl ps ∧ (TriplesOk ps.toList ∧ ∀ (pos : Pos) (cv : Value), codeAmong pos ps.toList = some cv → ∃ c, cv = .ref c ∧ H c = some (LamX.CodeO c (lamQ C m)) ∧ c ∉ ro.all) ∧ ro.ro[i]? = some P ∧ IsTab K mg C m P
/-- the changeable places -/
structure RelS (K : PySem.W.Frag) (mg : Str → Option Value) (ro : Pl) (M : MS) (H : Hp) : Prop where
  len : ro.ro.length = M.length
  nd : ro.ro.Nodup
  live : ∀ a, a ∈ ro.hid → ∃ o, H a = some o
  dis : ∀ a, a ∈ ro.ro → a ∉ ro.hid
  at_ : ∀ (i : Nat) mo a, M[i]? = some mo → ro.ro[i]? = some a → ∃ ho, H a = some ho ∧ MRel K mg ro H mo ho
/-- the slots -/
def RepSt (K : PySem.W.Frag) (mg : Str → Option Value) (ro : Pl) (H : Hp) (sd : List (Option D)) (st : St) : Prop :=
  sd.length = st.length ∧ ∀ (i : Nat) d, sd[i]? = some (some d) → ∃ v, st[i]? = some (some v) ∧ Rep K mg ro H d v
theorem RepSt.mono {K : PySem.W.Frag} {mg : Str → Option Value} {ro ro' : Pl} {H H' : Hp} {sd : List (Option D)} {st : St} (p : Pres ro H ro' H') (h : RepSt K mg ro H sd st) : RepSt K mg ro' H' sd st :=
  ⟨h.1, fun i d e => let ⟨v, e', r⟩ := h.2 i d e; ⟨v, e', Rep.mono p d v r⟩⟩
theorem RepSt.monoW {K : PySem.W.Frag} {mg : Str → Option Value} {ro ro' : Pl} {H H' : Hp} {sd : List (Option D)} {st : St} (p : PresW ro H ro' H') (h : RepSt K mg ro H sd st) : RepSt K mg ro' H' sd st :=
  ⟨h.1, fun i d e => let ⟨v, e', r⟩ := h.2 i d e; ⟨v, e', Rep.monoW p d v r⟩⟩
theorem RepSt.set {K : PySem.W.Frag} {mg : Str → Option Value} {ro : Pl} {H : Hp} {sd : List (Option D)} {st : St} (h : RepSt K mg ro H sd st) {i : Nat} {d : D} {v : V} (r : Rep K mg ro H d v) : RepSt K mg ro H (sd.set i (some d)) (st.set i (some v)) := by
  refine ⟨by simp [h.1], fun j e q => ?_⟩
  by_cases hj : i = j
  · subst hj
    by_cases hl : i < sd.length
    · rw [List.getElem?_set_self hl] at q
      cases q
      exact ⟨v, by rw [List.getElem?_set_self (by rw [← h.1]; exact hl)], r⟩
    · rw [List.getElem?_eq_none (by simpa using hl)] at q; cases q
  · rw [List.getElem?_set_ne hj] at q
    obtain ⟨w, e', r'⟩ := h.2 j e q
    exact ⟨w, by rw [List.getElem?_set_ne hj]; exact e', r'⟩
theorem RepSt.unset {K : PySem.W.Frag} {mg : Str → Option Value} {ro : Pl} {H : Hp} {sd : List (Option D)} {st : St} (h : RepSt K mg ro H sd st) {i : Nat} {o : Option V} : RepSt K mg ro H (sd.set i none) (st.set i o) := by
  refine ⟨by simp [h.1], fun j e q => ?_⟩
  by_cases hj : i = j
  · subst hj
    by_cases hl : i < sd.length
    · rw [List.getElem?_set_self hl] at q; cases q
    · rw [List.getElem?_eq_none (by simpa using hl)] at q; cases q
  · rw [List.getElem?_set_ne hj] at q
    obtain ⟨w, e', r'⟩ := h.2 j e q
    exact ⟨w, by rw [List.getElem?_set_ne hj]; exact e', r'⟩

/-- an exception as HandS tells it: its class and its own dict -/
def RepX (K : PySem.W.Frag) (mg : Str → Option Value) (ro : Pl) (H : Hp) (C : String) (ns : List String) (ds : List D) (cls : Value) (dd : Option Addr) : Prop :=
  ∃ c, cls = .ref c ∧ mg (Str.ofString C) = some (.ref c) ∧ ((dd = none ∧ ns = [] ∧ ds = []) ∨ ∃ d vs, dd = some d ∧ H d = some (.xd (zipF ns vs)) ∧ d ∉ ro.all ∧ ns.length = vs.length ∧ Reps K mg ro H ds vs)

/-- what is to be shown where a piece has ended so; W: what is wished of an exception -/
def Post {A B : Type} (R : Pl → Hp → A → B → Prop) (K : PySem.W.Frag) (mg : Str → Option Value) (E : XK) (ro : Pl) (H : Hp) (Q : B → Hp → Prop) : Res A → Prop
  | .ok a M => ∀ ro' H' v, RelS K mg ro' M H' → Pres ro H ro' H' → R ro' H' a v → Q v H'
  | .exc C ns ds M => ∀ ro' H' cls dd, RelS K mg ro' M H' → Pres ro H ro' H' → RepX K mg ro' H' C ns ds cls dd → E cls dd H'
  | .stuck => False
section
variable {A A' B B' : Type} {R : Pl → Hp → A → B → Prop} {R' : Pl → Hp → A' → B' → Prop} {K : PySem.W.Frag} {mg : Str → Option Value} {E : XK} {ro ro1 : Pl} {H H1 : Hp} {Q : B → Hp → Prop}
theorem Post.moves {x : Res A} (h : Post R K mg E ro H Q x) (p : Pres ro H ro1 H1) : Post R K mg E ro1 H1 Q x := by
  cases x with
  | ok a M => exact fun ro' H' v rs q r => h ro' H' v rs (p.trans q) r
  | exc C ns ds M => exact fun ro' H' cls dd rs q r => h ro' H' cls dd rs (p.trans q) r
  | stuck => exact h
/-- one piece behind another -/
theorem Post.bind {x : Res A} {k : A → MS → Res A'} {Q' : B' → Hp → Prop} (h : Post R' K mg E ro H Q' (x.bind k)) :
    Post R K mg E ro H (fun v H1 => ∃ ro1 M1 a, RelS K mg ro1 M1 H1 ∧ Pres ro H ro1 H1 ∧ R ro1 H1 a v ∧ Post R' K mg E ro1 H1 Q' (k a M1)) x := by
  cases x with
  | ok a M => exact fun ro' H' v rs q r => ⟨ro', M, a, rs, q, r, Post.moves h q⟩
  | exc C ns ds M => exact h
  | stuck => exact h
theorem Post.imp {x : Res A} {Q' : B → Hp → Prop} (h : Post R K mg E ro H Q x) (f : ∀ v H', Q v H' → Q' v H') : Post R K mg E ro H Q' x := by
  cases x with
  | ok a M => exact fun ro' H' v rs q r => f _ _ (h ro' H' v rs q r)
  | exc C ns ds M => exact h
  | stuck => exact h
end
abbrev PostD (K : PySem.W.Frag) (mg : Str → Option Value) (E : XK) (ro : Pl) (H : Hp) (Q : VK) (x : Res D) : Prop := Post (fun ro' H' d v => Rep K mg ro' H' d v) K mg E ro H Q x
abbrev PostB (K : PySem.W.Frag) (mg : Str → Option Value) (E : XK) (ro : Pl) (H : Hp) (Q : Bool → Hp → Prop) (x : Res Bool) : Prop := Post (fun _ _ (b : Bool) c => c = b) K mg E ro H Q x
abbrev PostA (K : PySem.W.Frag) (mg : Str → Option Value) (E : XK) (ro : Pl) (H : Hp) (Q : List V → Hp → Prop) (x : Res (List D)) : Prop := Post (fun ro' H' ds vs => Reps K mg ro' H' ds vs) K mg E ro H Q x

/-! ### the judgements -/
abbrev SD := List (Option D)
abbrev ME := SD → MS → Res D
abbrev MB := SD → MS → Res Bool
abbrev MA := SD → MS → Res (List D)
def liftE (K : PySem.W.Frag) (mg : Str → Option Value) (W : WX) (m : ME) : TE := fun st H Q => ∃ ro sd M, RelS K mg ro M H ∧ RepSt K mg ro H sd st ∧ PostD K mg (fun c d H' => W c d st H') ro H Q (m sd M)
def liftB (K : PySem.W.Frag) (mg : Str → Option Value) (W : WX) (m : MB) : TT := fun st H Q => ∃ ro sd M, RelS K mg ro M H ∧ RepSt K mg ro H sd st ∧ PostB K mg (fun c d H' => W c d st H') ro H Q (m sd M)
def liftA (K : PySem.W.Frag) (mg : Str → Option Value) (W : WX) (m : MA) : TA := fun st H Q => ∃ ro sd M, RelS K mg ro M H ∧ RepSt K mg ro H sd st ∧ PostA K mg (fun c d H' => W c d st H') ro H Q (m sd M)
structure DE (X : Cx) (W : WX) (e : Expr) (m : ME) : Prop where
  pe : PE X e (liftE X.K X.mg W m)
structure DT (X : Cx) (W : WX) (e : Expr) (m : MB) : Prop where
  pt : PT X e (liftB X.K X.mg W m)
structure DW (X : Cx) (W : WX) (e : Expr) (m : MB) : Prop where
  pw : PW X e (liftB X.K X.mg W m)
structure DA (X : Cx) (W : WX) (es : List Expr) (m : MA) : Prop where
  pa : PA X es (liftA X.K X.mg W m)

/-- how a statement ends -/
inductive SRes where
  | nx (sd : SD) (M : MS)
  | ret (d : D) (M : MS)
  | brk (sd : SD) (M : MS)
  | ct (sd : SD) (M : MS)
  | exc (C : String) (ns : List String) (ds : List D) (sd : SD) (M : MS)
  | stuck
abbrev MST := SD → MS → SRes
def PostS (K : PySem.W.Frag) (mg : Str → Option Value) (W : WX) (ro : Pl) (H : Hp) (D0 : Ends) : SRes → Prop
  | .nx sd M => ∀ ro' H' st, RelS K mg ro' M H' → Pres ro H ro' H' → RepSt K mg ro' H' sd st → D0.nx st H'
  | .ret d M => ∀ ro' H' v, RelS K mg ro' M H' → Pres ro H ro' H' → Rep K mg ro' H' d v → D0.rt v H'
  | .brk sd M => ∀ ro' H' st, RelS K mg ro' M H' → Pres ro H ro' H' → RepSt K mg ro' H' sd st → D0.bk st H'
  | .ct sd M => ∀ ro' H' st, RelS K mg ro' M H' → Pres ro H ro' H' → RepSt K mg ro' H' sd st → D0.ct st H'
  | .exc C ns ds sd M => ∀ ro' H' st cls dd, RelS K mg ro' M H' → Pres ro H ro' H' → RepSt K mg ro' H' sd st → RepX K mg ro' H' C ns ds cls dd → W cls dd st H'
  | .stuck => False
def liftS (K : PySem.W.Frag) (mg : Str → Option Value) (W : WX) (m : MST) : TS := fun D0 st H => ∃ ro sd M, RelS K mg ro M H ∧ RepSt K mg ro H sd st ∧ PostS K mg W ro H D0 (m sd M)
structure DS (X : Cx) (W : WX) (s : Stmt) (m : MST) : Prop where
  ps : PS X s (liftS X.K X.mg W m)
structure DSs (X : Cx) (W : WX) (s : List Stmt) (m : MST) : Prop where
  ps : PSs X s (liftS X.K X.mg W m)
end DL

/-! DL: expressions. -/
namespace DL
open PySem PySem.Spec L2
open PyProof.Rows hiding St

section
variable {K : PySem.W.Frag} {mg : Str → Option Value} {ro : Pl} {H : Hp} {M : MS}
theorem Reps.len : ∀ {ds : List D} {vs : List V}, Reps K mg ro H ds vs → ds.length = vs.length
  | [], vs, h => by cases (show vs = [] from h); rfl
  | d :: ds, vs, ⟨v, r, e, _, t⟩ => by subst e; simp [Reps.len t]
theorem Reps.append : ∀ {ds es : List D} {vs ws : List V}, Reps K mg ro H ds vs → Reps K mg ro H es ws → Reps K mg ro H (ds ++ es) (vs ++ ws)
  | [], es, vs, ws, h, h' => by cases (show vs = [] from h); exact h'
  | d :: ds, es, vs, ws, ⟨v, r, e, q, t⟩, h' => by subst e; exact ⟨v, r ++ ws, rfl, q, Reps.append t h'⟩
theorem Reps.get : ∀ {ds : List D} {vs : List V} {i : Nat} {d : D}, Reps K mg ro H ds vs → ds[i]? = some d → ∃ v, vs[i]? = some v ∧ Rep K mg ro H d v
  | [], vs, i, d, h, e => by simp at e
  | x :: ds, vs, 0, d, ⟨v, r, e, q, t⟩, e' => by subst e; simp at e'; subst e'; exact ⟨v, rfl, q⟩
  | x :: ds, vs, i + 1, d, ⟨v, r, e, q, t⟩, e' => by subst e; simp at e'; simpa using Reps.get t e'
theorem Reps.getV : ∀ {ds : List D} {vs : List V} {i : Nat} {v : V}, Reps K mg ro H ds vs → vs[i]? = some v → ∃ d, ds[i]? = some d ∧ Rep K mg ro H d v
  | [], vs, i, v, h, e => by cases (show vs = [] from h); simp at e
  | x :: ds, vs, 0, v, ⟨w, r, e, q, t⟩, e' => by subst e; simp at e'; subst e'; exact ⟨x, rfl, q⟩
  | x :: ds, vs, i + 1, v, ⟨w, r, e, q, t⟩, e' => by subst e; simp at e'; simpa using Reps.getV t e'
theorem Reps.take : ∀ {ds : List D} {vs : List V} (n : Nat), Reps K mg ro H ds vs → Reps K mg ro H (ds.take n) (vs.take n)
  | ds, vs, 0, h => by simp [Reps]
  | [], vs, n + 1, h => by cases (show vs = [] from h); simp [Reps]
  | d :: ds, vs, n + 1, ⟨v, r, e, q, t⟩ => by subst e; exact ⟨v, r.take n, rfl, q, Reps.take n t⟩
theorem Reps.drop : ∀ {ds : List D} {vs : List V} (n : Nat), Reps K mg ro H ds vs → Reps K mg ro H (ds.drop n) (vs.drop n)
  | ds, vs, 0, h => h
  | [], vs, n + 1, h => by cases (show vs = [] from h); simp [Reps]
  | d :: ds, vs, n + 1, ⟨v, r, e, q, t⟩ => by subst e; exact Reps.drop n t
theorem Reps.set : ∀ {ds : List D} {vs : List V} {d : D} {v : V} (i : Nat), Reps K mg ro H ds vs → Rep K mg ro H d v → Reps K mg ro H (ds.set i d) (vs.set i v)
  | [], vs, d, v, i, h, _ => by cases (show vs = [] from h); simp [Reps]
  | x :: ds, vs, d, v, 0, ⟨w, r, e, q, t⟩, h => by subst e; exact ⟨v, r, rfl, h, t⟩
  | x :: ds, vs, d, v, i + 1, ⟨w, r, e, q, t⟩, h => by subst e; exact ⟨w, r.set i v, rfl, q, Reps.set i t h⟩
theorem Reps.rev : ∀ {ds : List D} {vs : List V}, Reps K mg ro H ds vs → Reps K mg ro H ds.reverse vs.reverse
  | [], vs, h => by cases (show vs = [] from h); simp [Reps]
  | d :: ds, vs, ⟨v, r, e, q, t⟩ => by
    subst e
    rw [List.reverse_cons, List.reverse_cons]
    exact (Reps.rev t).append ⟨v, [], rfl, q, rfl⟩
theorem Reps.dropLast {ds : List D} {vs : List V} (h : Reps K mg ro H ds vs) : Reps K mg ro H ds.dropLast vs.dropLast := by
  rw [List.dropLast_eq_take, List.dropLast_eq_take, h.len]
  exact h.take _
theorem Reps.eraseIdx : ∀ {ds : List D} {vs : List V} (i : Nat), Reps K mg ro H ds vs → Reps K mg ro H (ds.eraseIdx i) (vs.eraseIdx i)
  | [], vs, i, h => by cases (show vs = [] from h); simp [Reps]
  | x :: ds, vs, 0, ⟨w, r, e, q, t⟩ => by subst e; exact t
  | x :: ds, vs, i + 1, ⟨w, r, e, q, t⟩ => by subst e; exact ⟨w, r.eraseIdx i, rfl, q, Reps.eraseIdx i t⟩
theorem Reps.one {d : D} {v : V} (h : Rep K mg ro H d v) : Reps K mg ro H [d] [v] := ⟨v, [], rfl, h, rfl⟩
theorem Reps.strs : ∀ {xs : List (List Nat)} {vs : List V}, Reps K mg ro H (xs.map D.str) vs → vs = (xs.map tx).map V.str
  | [], vs, h => h
  | x :: xs, vs, ⟨v, r, e, q, t⟩ => by subst e; rw [Reps.strs t, show v = V.str (tx x) from q]; rfl
theorem Reps.ints : ∀ {xs : List Int} {vs : List V}, Reps K mg ro H (xs.map D.int) vs → vs = xs.map V.int
  | [], vs, h => h
  | x :: xs, vs, ⟨v, r, e, q, t⟩ => by subst e; rw [Reps.ints t, show v = V.int x from q]; rfl
theorem Reps.flatten_replicate {ds : List D} {vs : List V} (h : Reps K mg ro H ds vs) : ∀ n, Reps K mg ro H (List.replicate n ds).flatten (List.replicate n vs).flatten
  | 0 => by simp [Reps]
  | n + 1 => by
    rw [List.replicate_succ, List.replicate_succ, List.flatten_cons, List.flatten_cons]
    exact h.append (Reps.flatten_replicate h n)

/-- what is read as a list; as a list or a tuple -/
def lstOf (M : MS) : D → Option (List D)
  | .lst ds => some ds
  | .cell n => match M[n]? with
    | some (.lst ds) => some ds
    | _ => none
  | _ => none
def seqOf (M : MS) : D → Option (List D)
  | .lst ds => some ds
  | .flst ds => some ds
  | .tup ds => some ds
  | .cell n => match M[n]? with
    | some (.lst ds) => some ds
    | _ => none
  | _ => none
@[simp] theorem lstOf_lst (ds : List D) : lstOf M (.lst ds) = some ds := rfl
@[simp] theorem seqOf_lst (ds : List D) : seqOf M (.lst ds) = some ds := rfl
@[simp] theorem seqOf_flst (ds : List D) : seqOf M (.flst ds) = some ds := rfl
@[simp] theorem seqOf_tup (ds : List D) : seqOf M (.tup ds) = some ds := rfl
theorem RelS.cellAt (R : RelS K mg ro M H) {n : Nat} {mo : MO} {x : V} (r : Rep K mg ro H (.cell n) x) (e : M[n]? = some mo) : ∃ a ho, x = .ref a ∧ ro.ro[n]? = some a ∧ H a = some ho ∧ MRel K mg ro H mo ho := by
  obtain ⟨a, rfl, g⟩ := r
  obtain ⟨ho, h, m⟩ := R.at_ n mo a e g
  exact ⟨a, ho, rfl, g, h, m⟩
theorem lst_of (R : RelS K mg ro M H) {d : D} {x : V} {ds : List D} (r : Rep K mg ro H d x) (e : lstOf M d = some ds) : ∃ a vs, x = .ref a ∧ H a = some (.lst vs) ∧ Reps K mg ro H ds vs := by
  cases d with
  | lst es =>
    cases (show some es = some ds from e)
    obtain ⟨a, vs, rfl, h, _, q⟩ := r
    exact ⟨a, vs, rfl, h, q⟩
  | cell n =>
    have e' : (match M[n]? with | some (.lst ds) => some ds | _ => none) = some ds := e
    split at e'
    · rename_i es hm
      cases e'
      obtain ⟨a, ho, rfl, _, h, vs, rfl, q⟩ := R.cellAt r hm
      exact ⟨a, vs, rfl, h, q⟩
    · cases e'
  | _ => cases e
theorem seq_of (R : RelS K mg ro M H) {d : D} {x : V} {ds : List D} (r : Rep K mg ro H d x) (e : seqOf M d = some ds) : ∃ a vs, x = .ref a ∧ (SqL K H a vs ∨ SqT K H a vs) ∧ Reps K mg ro H ds vs := by
  cases d with
  | lst es =>
    cases (show some es = some ds from e)
    obtain ⟨a, vs, rfl, h, _, q⟩ := r
    exact ⟨a, vs, rfl, .inl (SqL.of h), q⟩
  | flst es =>
    cases (show some es = some ds from e)
    obtain ⟨a, vs, rfl, h, q⟩ := r
    exact ⟨a, vs, rfl, .inl h.sq, q⟩
  | tup es =>
    cases (show some es = some ds from e)
    obtain ⟨a, vs, rfl, h, q⟩ := r
    exact ⟨a, vs, rfl, .inr h.sq, q⟩
  | cell n =>
    have e' : (match M[n]? with | some (.lst ds) => some ds | _ => none) = some ds := e
    split at e'
    · rename_i es hm
      cases e'
      obtain ⟨a, ho, rfl, _, h, vs, rfl, q⟩ := R.cellAt r hm
      exact ⟨a, vs, rfl, .inl (SqL.of h), q⟩
    · cases e'
  | _ => cases e

/-! ### new objects -/
theorem RelS.liv (R : RelS K mg ro M H) {a : Addr} (h : a ∈ ro.ro) : H a ≠ none := by
  obtain ⟨i, hi⟩ := List.getElem?_of_mem h
  have hl : i < M.length := by rw [← R.len]; exact (List.getElem?_eq_some_iff.mp hi).1
  obtain ⟨ho, e, _⟩ := R.at_ i _ a (List.getElem?_eq_getElem hl) hi
  rw [e]; simp
theorem RelS.liveN (R : RelS K mg ro M H) (a : Addr) (h : a ∈ ro.hid) : H a ≠ none := by
  obtain ⟨xs, e⟩ := R.live a h
  rw [e]; simp
theorem RelS.fresh (R : RelS K mg ro M H) {p : Addr} (hp : H p = none) : p ∉ ro.all := fun h => by
  rcases List.mem_append.mp h with h | h
  · exact R.liv h hp
  · exact R.liveN p h hp
theorem MRel.monoW {ro ro' : Pl} {H H' : Hp} (p : PresW ro H ro' H') {mo : MO} {ho : HO} (h : MRel K mg ro H mo ho) : MRel K mg ro' H' mo ho := by
  cases mo with
  | lst ds => obtain ⟨vs, e, r⟩ := h; exact ⟨vs, e, Reps.monoW p ds vs r⟩
  | obj C ns ds => obtain ⟨c, dx, vs, e, g, l, r⟩ := h; exact ⟨c, dx, vs, e, g, l, Reps.monoW p ds vs r⟩
  | dic ks ds => obtain ⟨kl, vs, e, g, l, r⟩ := h; exact ⟨kl, vs, e, g, l, Reps.monoW p ds vs r⟩
  | tab i C m => obtain ⟨ps, P, e, t, g, k⟩ := h; exact ⟨ps, P, e, ⟨t.1, fun ps cv hc => let ⟨c, e1, e2, e3⟩ := t.2 ps cv hc; ⟨c, e1, p.keep c _ e2 e3, p.out e3 (by rw [e2]; simp)⟩⟩, p.get g, k⟩
theorem MRel.mono {ro ro' : Pl} {H H' : Hp} (p : Pres ro H ro' H') {mo : MO} {ho : HO} (h : MRel K mg ro H mo ho) : MRel K mg ro' H' mo ho := h.monoW p.w
theorem RelS.grow (R : RelS K mg ro M H) {H' : Hp} (h : ∀ a o, H a = some o → H' a = some o) : RelS K mg ro M H' ∧ Pres ro H ro H' := by
  have p : Pres ro H ro H' := ⟨⟨[], by simp⟩, rfl, fun a o e _ => h a o e, fun _ h => .inl h⟩
  refine ⟨⟨R.len, R.nd, fun a ha => ?_, R.dis, fun i mo a e1 e2 => ?_⟩, p⟩
  · obtain ⟨xs, e⟩ := R.live a ha
    exact ⟨xs, h a _ e⟩
  · obtain ⟨ho, e, m⟩ := R.at_ i mo a e1 e2
    exact ⟨ho, h a _ e, m.mono p⟩
theorem upd_grow {H : Hp} {p : Addr} {o : HO} (hp : H p = none) : ∀ a u, H a = some u → upd H p o a = some u := fun a u e => by rw [upd_ne (ne_of_none e hp)]; exact e
theorem RelS.alloc (R : RelS K mg ro M H) {p : Addr} {o : HO} (hp : H p = none) : RelS K mg ro M (upd H p o) ∧ Pres ro H ro (upd H p o) := R.grow (upd_grow hp)
abbrev Pl.add (p : Pl) (a : Addr) : Pl := ⟨p.ro ++ [a], p.hid⟩
/-- a new changeable place -/
theorem RelS.allocM (R : RelS K mg ro M H) {p : Addr} {o : HO} {mo : MO} (hp : H p = none) (m : MRel K mg ro H mo o) : RelS K mg (ro.add p) (M ++ [mo]) (upd H p o) ∧ Pres ro H (ro.add p) (upd H p o) := by
  have pr : Pres ro H (ro.add p) (upd H p o) := ⟨⟨[p], rfl⟩, rfl, fun a u e _ => upd_grow hp a u e, fun a h => by
    rcases List.mem_append.mp h with h | h
    · exact .inl h
    · have : a = p := by simpa using h
      exact .inr (this ▸ hp)⟩
  refine ⟨⟨by simp [R.len], ?_, fun a ha => ?_, fun a ha => ?_, fun i mo' a e1 e2 => ?_⟩, pr⟩
  · rw [List.nodup_append]
    refine ⟨R.nd, by simp, fun a ha b hb => ?_⟩
    have : b = p := by simpa using hb
    rw [this]
    exact fun e => R.fresh hp (List.mem_append_left _ (e ▸ ha))
  · obtain ⟨xs, e⟩ := R.live a ha
    exact ⟨xs, upd_grow hp _ _ e⟩
  · rcases List.mem_append.mp ha with h | h
    · exact R.dis a h
    · have : a = p := by simpa using h
      subst this
      exact fun z => R.liveN a z hp
  · by_cases hi : i < M.length
    · rw [List.getElem?_append_left hi] at e1
      rw [List.getElem?_append_left (by rw [R.len]; exact hi)] at e2
      obtain ⟨ho, e, m'⟩ := R.at_ i mo' a e1 e2
      exact ⟨ho, upd_grow hp _ _ e, m'.mono pr⟩
    · have hi' : i = M.length := by
        have := (List.getElem?_eq_some_iff.mp e1).1
        simp at this; omega
      subst hi'
      rw [List.getElem?_append_right (Nat.le_refl _)] at e1
      simp at e1; subst e1
      rw [← R.len, List.getElem?_append_right (Nat.le_refl _)] at e2
      simp at e2; subst e2
      exact ⟨o, upd_same, m.mono pr⟩
/-- a changeable place is changed -/
theorem RelS.change (R : RelS K mg ro M H) {n : Nat} {a : Addr} {o : HO} {mo : MO} (g : ro.ro[n]? = some a) (m : MRel K mg ro H mo o) : RelS K mg ro (M.set n mo) (upd H a o) ∧ Pres ro H ro (upd H a o) := by
  have hm : a ∈ ro.ro := List.mem_of_getElem? g
  have pr : Pres ro H ro (upd H a o) := ⟨⟨[], by simp⟩, rfl, fun b u e hb => by rw [upd_ne (fun z => hb (by rw [z]; exact hm))]; exact e, fun _ h => .inl h⟩
  refine ⟨⟨by simp [R.len], R.nd, fun b hb => ?_, R.dis, fun i mo' b e1 e2 => ?_⟩, pr⟩
  · rw [upd_ne (fun z => R.dis a hm (by rw [← z]; exact hb))]; exact R.live b hb
  · by_cases hi : n = i
    · subst hi
      rw [g] at e2; cases e2
      have hl : n < M.length := by rw [← R.len]; exact (List.getElem?_eq_some_iff.mp g).1
      rw [List.getElem?_set_self hl] at e1; cases e1
      exact ⟨o, upd_same, m.mono pr⟩
    · rw [List.getElem?_set_ne hi] at e1
      obtain ⟨ho, e, m'⟩ := R.at_ i mo' b e1 e2
      have hb : b ≠ a := fun z => by
        subst z
        obtain ⟨h1, q1⟩ := List.getElem?_eq_some_iff.mp g
        obtain ⟨h2, q2⟩ := List.getElem?_eq_some_iff.mp e2
        exact hi ((List.getElem_inj R.nd).mp (q1.trans q2.symm))
      exact ⟨ho, by rw [upd_ne hb]; exact e, m'.mono pr⟩
/-- a place is hidden; it is shown again -/
abbrev Pl.hide (p : Pl) (a : Addr) : Pl := ⟨p.ro, a :: p.hid⟩
mutual
theorem Rep.less {ro ro' : Pl} (e : ro'.ro = ro.ro) (h : ∀ a, a ∈ ro'.hid → a ∈ ro.hid) : ∀ (d : D) (v : V), Rep K mg ro H d v → Rep K mg ro' H d v
  | .non, v, q => q
  | .bl b, v, q => q
  | .int i, v, q => q
  | .str x, v, q => q
  | .tup ds, v, ⟨a, vs, e1, q, r⟩ => ⟨a, vs, e1, q.imp (fun ⟨z, n⟩ => ⟨z, fun m => n ((List.mem_append.mp m).elim (fun m => List.mem_append_left _ (e ▸ m)) fun m => List.mem_append_right _ (h a m))⟩) id, Reps.less e h ds vs r⟩
  | .lst ds, v, ⟨a, vs, e1, q, n, r⟩ => ⟨a, vs, e1, q, fun m => n ((List.mem_append.mp m).elim (fun m => List.mem_append_left _ (e ▸ m)) fun m => List.mem_append_right _ (h a m)), Reps.less e h ds vs r⟩
  | .flst ds, v, ⟨a, vs, e1, q, r⟩ => ⟨a, vs, e1, q.imp (fun ⟨z, n⟩ => ⟨z, fun m => n ((List.mem_append.mp m).elim (fun m => List.mem_append_left _ (e ▸ m)) fun m => List.mem_append_right _ (h a m))⟩) id, Reps.less e h ds vs r⟩
  | .obj C ns ds, v, ⟨a, c, dx, vs, e1, g, q, n, l, r⟩ => ⟨a, c, dx, vs, e1, g, q, fun m => n ((List.mem_append.mp m).elim (fun m => List.mem_append_left _ (e ▸ m)) fun m => List.mem_append_right _ (h a m)), l, Reps.less e h ds vs r⟩
  | .dic ks ds, v, ⟨a, kl, vs, e1, g, l, q, n, r⟩ => ⟨a, kl, vs, e1, g, l, q, fun m => n ((List.mem_append.mp m).elim (fun m => List.mem_append_left _ (e ▸ m)) fun m => List.mem_append_right _ (h a m)), Reps.less e h ds vs r⟩
  | .glo x, v, q => q
  | .ty n, v, q => q
  | .exn C ns ds x d, v, ⟨a, vs, e1, q, n, l, r⟩ => ⟨a, vs, e1, q, fun m => n ((List.mem_append.mp m).elim (fun m => List.mem_append_left _ (e ▸ m)) fun m => List.mem_append_right _ (h d m)), l, Reps.less e h ds vs r⟩
  | .cell n, v, ⟨a, e1, g⟩ => ⟨a, e1, by rw [e]; exact g⟩
theorem Reps.less {ro ro' : Pl} (e : ro'.ro = ro.ro) (h : ∀ a, a ∈ ro'.hid → a ∈ ro.hid) : ∀ (ds : List D) (vs : List V), Reps K mg ro H ds vs → Reps K mg ro' H ds vs
  | [], vs, q => q
  | d :: ds, vs, ⟨v, r, e1, q, t⟩ => ⟨v, r, e1, Rep.less e h d v q, Reps.less e h ds r t⟩
end
theorem MRel.less {ro ro' : Pl} (e : ro'.ro = ro.ro) (h : ∀ a, a ∈ ro'.hid → a ∈ ro.hid) {mo : MO} {ho : HO} (q : MRel K mg ro H mo ho) : MRel K mg ro' H mo ho := by
  cases mo with
  | lst ds => obtain ⟨vs, e1, r⟩ := q; exact ⟨vs, e1, Reps.less e h ds vs r⟩
  | obj C ns ds => obtain ⟨c, dx, vs, e1, g, l, r⟩ := q; exact ⟨c, dx, vs, e1, g, l, Reps.less e h ds vs r⟩
  | dic ks ds => obtain ⟨kl, vs, e1, g, l, r⟩ := q; exact ⟨kl, vs, e1, g, l, Reps.less e h ds vs r⟩
  | tab i C m => obtain ⟨ps, P, e1, t, g, k⟩ := q; exact ⟨ps, P, e1, ⟨t.1, fun ps cv hc => let ⟨c, e1, e2, e3⟩ := t.2 ps cv hc; ⟨c, e1, e2, fun m => e3 ((List.mem_append.mp m).elim (fun m => List.mem_append_left _ (e ▸ m)) fun m => List.mem_append_right _ (h c m))⟩⟩, by rw [e]; exact g, k⟩
theorem PresW.hide {ro : Pl} {H : Hp} {p : Addr} {o : HO} (hp : H p = none) : PresW ro H (ro.hide p) (upd H p o) := ⟨⟨[], by simp⟩, fun a u e _ => upd_grow hp a u e, fun a h => by
  rcases List.mem_append.mp h with h | h
  · exact .inl (List.mem_append_left _ h)
  · rcases List.mem_cons.mp h with h | h
    · exact .inr (h ▸ hp)
    · exact .inl (List.mem_append_right _ h)⟩
theorem RelS.hide (R : RelS K mg ro M H) {p : Addr} {o : HO} (hp : H p = none) : RelS K mg (ro.hide p) M (upd H p o) := by
  refine ⟨R.len, R.nd, fun a ha => ?_, fun a ha hb => ?_, fun i mo a e1 e2 => ?_⟩
  · rcases List.mem_cons.mp ha with rfl | ha
    · exact ⟨o, upd_same⟩
    · obtain ⟨xs, e⟩ := R.live a ha
      exact ⟨xs, upd_grow hp _ _ e⟩
  · rcases List.mem_cons.mp hb with rfl | hb
    · exact R.liv ha hp
    · exact R.dis a ha hb
  · obtain ⟨ho, e, m⟩ := R.at_ i mo a e1 e2
    exact ⟨ho, upd_grow hp _ _ e, m.monoW (PresW.hide hp)⟩
theorem RelS.shown {p : Addr} (R : RelS K mg (ro.hide p) M H) : RelS K mg ro M H :=
  ⟨R.len, R.nd, fun a ha => R.live a (List.mem_cons_of_mem _ ha), fun a ha hb => R.dis a ha (List.mem_cons_of_mem _ hb), fun i mo a e1 e2 => let ⟨ho, e, m⟩ := R.at_ i mo a e1 e2; ⟨ho, e, MRel.less (ro := ro.hide p) (ro' := ro) rfl (fun x (h : x ∈ ro.hid) => List.mem_cons_of_mem _ h) m⟩⟩
theorem Pl.ne {ro : Pl} {a p : Addr} (n : a ∉ ro.all) (hp : p ∈ ro.hid) : a ≠ p := fun z => n (by rw [z]; exact List.mem_append_right _ hp)
/-! a hidden place is changed: nothing sees it -/
mutual
theorem Rep.unseen {p : Addr} {o : HO} (hp : p ∈ ro.hid) : ∀ (d : D) (v : V), Rep K mg ro H d v → Rep K mg ro (upd H p o) d v
  | .non, v, q => q
  | .bl b, v, q => q
  | .int i, v, q => q
  | .str x, v, q => q
  | .tup ds, v, ⟨a, vs, e1, q, r⟩ => ⟨a, vs, e1, q.imp (fun ⟨z, n⟩ => ⟨z.imp (fun z => by rw [upd_ne (Pl.ne n hp)]; exact z) fun ⟨u, z⟩ => ⟨u, by rw [upd_ne (Pl.ne n hp)]; exact z⟩, n⟩) id, Reps.unseen hp ds vs r⟩
  | .lst ds, v, ⟨a, vs, e1, q, n, r⟩ => ⟨a, vs, e1, by rw [upd_ne (Pl.ne n hp)]; exact q, n, Reps.unseen hp ds vs r⟩
  | .flst ds, v, ⟨a, vs, e1, q, r⟩ => ⟨a, vs, e1, q.imp (fun ⟨z, n⟩ => ⟨z.imp (fun z => by rw [upd_ne (Pl.ne n hp)]; exact z) fun ⟨u, z⟩ => ⟨u, by rw [upd_ne (Pl.ne n hp)]; exact z⟩, n⟩) id, Reps.unseen hp ds vs r⟩
  | .obj C ns ds, v, ⟨a, c, dx, vs, e1, g, q, n, l, r⟩ => ⟨a, c, dx, vs, e1, g, by rw [upd_ne (Pl.ne n hp)]; exact q, n, l, Reps.unseen hp ds vs r⟩
  | .dic ks ds, v, ⟨a, kl, vs, e1, g, l, q, n, r⟩ => ⟨a, kl, vs, e1, g, l, by rw [upd_ne (Pl.ne n hp)]; exact q, n, Reps.unseen hp ds vs r⟩
  | .glo x, v, q => q
  | .ty n, v, q => q
  | .exn C ns ds x d, v, ⟨a, vs, e1, q, n, l, r⟩ => ⟨a, vs, e1, by rw [upd_ne (Pl.ne n hp)]; exact q, n, l, Reps.unseen hp ds vs r⟩
  | .cell n, v, q => q
theorem Reps.unseen {p : Addr} {o : HO} (hp : p ∈ ro.hid) : ∀ (ds : List D) (vs : List V), Reps K mg ro H ds vs → Reps K mg ro (upd H p o) ds vs
  | [], vs, q => q
  | d :: ds, vs, ⟨v, r, e1, q, t⟩ => ⟨v, r, e1, Rep.unseen hp d v q, Reps.unseen hp ds r t⟩
end
theorem MRel.unseen {p : Addr} {o : HO} (hp : p ∈ ro.hid) {mo : MO} {ho : HO} (q : MRel K mg ro H mo ho) : MRel K mg ro (upd H p o) mo ho := by
  cases mo with
  | lst ds => obtain ⟨vs, e1, r⟩ := q; exact ⟨vs, e1, Reps.unseen hp ds vs r⟩
  | obj C ns ds => obtain ⟨c, dx, vs, e1, g, l, r⟩ := q; exact ⟨c, dx, vs, e1, g, l, Reps.unseen hp ds vs r⟩
  | dic ks ds => obtain ⟨kl, vs, e1, g, l, r⟩ := q; exact ⟨kl, vs, e1, g, l, Reps.unseen hp ds vs r⟩
  | tab i C m => obtain ⟨ps, P, e1, t, g, k⟩ := q; exact ⟨ps, P, e1, ⟨t.1, fun ps cv hc => let ⟨c, e1, e2, e3⟩ := t.2 ps cv hc; ⟨c, e1, by rw [upd_ne (Pl.ne e3 hp)]; exact e2, e3⟩⟩, g, k⟩
theorem RelS.unseen (R : RelS K mg ro M H) {p : Addr} {o : HO} (hp : p ∈ ro.hid) : RelS K mg ro M (upd H p o) := by
  refine ⟨R.len, R.nd, fun a ha => ?_, R.dis, fun i mo a e1 e2 => ?_⟩
  · by_cases e : a = p
    · subst e; exact ⟨o, upd_same⟩
    · rw [upd_ne e]; exact R.live a ha
  · obtain ⟨ho, e, m⟩ := R.at_ i mo a e1 e2
    exact ⟨ho, by rw [upd_ne (fun z => R.dis a (List.mem_of_getElem? e2) (by rw [z]; exact hp))]; exact e, m.unseen hp⟩
variable {E : XK} {Q : VK}
theorem PostD.pure {d : D} (R : RelS K mg ro M H) {v : V} (r : Rep K mg ro H d v) (h : PostD K mg E ro H Q (.ok d M)) : Q v H := h ro H v R (Pres.refl _ _) r
theorem PostD.newL {ds : List D} (R : RelS K mg ro M H) {vs : List V} (r : Reps K mg ro H ds vs) (h : PostD K mg E ro H Q (.ok (.lst ds) M)) : ∀ p, H p = none → Q (.ref p) (upd H p (.lst vs)) := fun p hp => by
  obtain ⟨R', P⟩ := R.alloc (o := .lst vs) hp
  exact h ro _ _ R' P ⟨p, vs, rfl, upd_same, R.fresh hp, Reps.mono P ds vs r⟩
theorem PostD.newT {ds : List D} (R : RelS K mg ro M H) {vs : List V} (r : Reps K mg ro H ds vs) (h : PostD K mg E ro H Q (.ok (.tup ds) M)) : ∀ p, H p = none → Q (.ref p) (upd H p (.tup vs)) := fun p hp => by
  obtain ⟨R', P⟩ := R.alloc (o := .tup vs) hp
  exact h ro _ _ R' P ⟨p, vs, rfl, .inl ⟨.inl upd_same, R.fresh hp⟩, Reps.mono P ds vs r⟩
theorem PostD.newC {ds : List D} (R : RelS K mg ro M H) {vs : List V} (r : Reps K mg ro H ds vs) (h : PostD K mg E ro H Q (.ok (.cell M.length) (M ++ [.lst ds]))) : ∀ p, H p = none → Q (.ref p) (upd H p (.lst vs)) := fun p hp => by
  obtain ⟨R', P⟩ := R.allocM (o := .lst vs) (mo := .lst ds) hp ⟨vs, rfl, r⟩
  exact h _ _ _ R' P ⟨p, rfl, by rw [← R.len, List.getElem?_append_right (Nat.le_refl _)]; simp⟩
end

theorem line_le {n : Nat} (h : n ≤ 1000000) : n ≤ sizeLine := by rw [sizeLine_eq]; omega
theorem line_lt {n : Nat} (h : n < 1000000) : n < sizeLine := by rw [sizeLine_eq]; omega

/-! ### names, constants, operators -/
def nameE (i : Nat) : ME := fun sd M => match sd[i]? with
  | some (some d) => .ok d M
  | _ => .stuck
def constE (d : D) : ME := fun _ M => .ok d M
def binE (f : D → D → MS → Res D) (a b : ME) : ME := fun sd M => (a sd M).bind fun d M1 => (b sd M1).bind fun e M2 => f d e M2
def unE (f : D → MS → Res D) (a : ME) : ME := fun sd M => (a sd M).bind fun d M1 => f d M1
def andE (a b : ME) : ME := fun sd M => (a sd M).bind fun d M1 => match d with
  | .bl true => b sd M1
  | .bl false => .ok (.bl false) M1
  | _ => .stuck
def orE (a b : ME) : ME := fun sd M => (a sd M).bind fun d M1 => match d with
  | .bl true => .ok (.bl true) M1
  | .bl false => b sd M1
  | _ => .stuck
def notE (a : ME) : ME := fun sd M => (a sd M).bind fun d M1 => match d with
  | .bl c => .ok (.bl (!c)) M1
  | _ => .stuck
def ifE (c : MB) (a b : ME) : ME := fun sd M => (c sd M).bind fun k M1 => if k = true then a sd M1 else b sd M1
/-- a truth value as a test -/
def valB (a : ME) : MB := fun sd M => (a sd M).bind fun d M1 => match d with
  | .bl c => .ok c M1
  | _ => .stuck
def truD (M : MS) : D → Option Bool
  | .non => some false
  | .bl b => some b
  | .int i => some (i != 0)
  | .str x => if x.length ≤ 1000000 then some ((x.length : Int) != 0) else none
  | .lst ds => some (!ds.isEmpty)
  | .flst ds => some (!ds.isEmpty)
  | .tup ds => some (!ds.isEmpty)
  | .cell n => match M[n]? with
    | some (.lst ds) => some (!ds.isEmpty)
    | _ => none
  | _ => none
def truB (a : ME) : MB := fun sd M => (a sd M).bind fun d M1 => match truD M1 d with
  | some c => .ok c M1
  | none => .stuck
def andB (a b : MB) : MB := fun sd M => (a sd M).bind fun c M1 => if c = true then b sd M1 else .ok false M1
def orB (a b : MB) : MB := fun sd M => (a sd M).bind fun c M1 => if c = true then .ok true M1 else b sd M1
def notB (a : MB) : MB := fun sd M => (a sd M).bind fun c M1 => .ok (!c) M1
def nilA : MA := fun _ M => .ok [] M
def consA (a : ME) (r : MA) : MA := fun sd M => (a sd M).bind fun d M1 => (r sd M1).bind fun ds M2 => .ok (d :: ds) M2
def tupE (a : MA) : ME := fun sd M => (a sd M).bind fun ds M1 => if ds.length ≤ 1000000 then .ok (.tup ds) M1 else .stuck
def lstE (a : MA) : ME := fun sd M => (a sd M).bind fun ds M1 => if ds.length ≤ 1000000 then .ok (.lst ds) M1 else .stuck
/-- a list that will be changed -/
def celE (a : MA) : ME := fun sd M => (a sd M).bind fun ds M1 => if ds.length ≤ 1000000 then .ok (.cell M1.length) (M1 ++ [.lst ds]) else .stuck
def appE (f : List D → MS → Res D) (a : MA) : ME := fun sd M => (a sd M).bind fun ds M1 => f ds M1

/-- an operation of two values -/
def OpS (X : Cx) (fv : Value → Value → Sem Value) (f : D → D → MS → Res D) : Prop :=
  ∃ r : R2, OpR X fv r ∧ ∀ (ro : Pl) (H : Hp) (M : MS) (d e : D) (x y : V) (E : XK) (Q : VK), RelS X.K X.mg ro M H → Rep X.K X.mg ro H d x → Rep X.K X.mg ro H e y → PostD X.K X.mg E ro H Q (f d e M) → r x y H Q
def UnS (X : Cx) (fv : Value → Sem Value) (f : D → MS → Res D) : Prop :=
  ∃ r : V → Hp → VK → Prop, UnR X fv r ∧ ∀ (ro : Pl) (H : Hp) (M : MS) (d : D) (x : V) (E : XK) (Q : VK), RelS X.K X.mg ro M H → Rep X.K X.mg ro H d x → PostD X.K X.mg E ro H Q (f d M) → r x H Q
/-- a call of a built-in -/
def CallS (X : Cx) (fv : Value) (f : List D → MS → Res D) : Prop :=
  ∃ r : List V → Hp → VK → Prop, CallR X fv r ∧ ∀ (ro : Pl) (H : Hp) (M : MS) (ds : List D) (xs : List V) (E : XK) (Q : VK), RelS X.K X.mg ro M H → Reps X.K X.mg ro H ds xs → PostD X.K X.mg E ro H Q (f ds M) → r xs H Q
/-- a method of a built-in type -/
def MtS (X : Cx) (T id : String) (f : D → List D → MS → Res D) : Prop :=
  ∃ r : V → List V → Hp → VK → Prop, MtR X id r ∧ ∀ (ro : Pl) (H : Hp) (M : MS) (d : D) (ds : List D) (x : V) (xs : List V) (E : XK) (Q : VK), RelS X.K X.mg ro M H → Rep X.K X.mg ro H d x → Reps X.K X.mg ro H ds xs → PostD X.K X.mg E ro H Q (f d ds M) → r x xs H Q
/-- a subscript -/
def IxS (X : Cx) (f : D → D → MS → Res D) : Prop :=
  ∃ r : R2, IxR X r ∧ ∀ (ro : Pl) (H : Hp) (M : MS) (d e : D) (x y : V) (E : XK) (Q : VK), RelS X.K X.mg ro M H → Rep X.K X.mg ro H d x → Rep X.K X.mg ro H e y → PostD X.K X.mg E ro H Q (f d e M) → r x y H Q

section
variable {X : Cx} {W : WX} {a b c e : Expr} {es : List Expr} {pos : Pos} {ma mb mc : ME} {ta tb tc : MB} {ms : MA}
theorem de_name (i : Nat) {x : Str} (hN : X.N[i]? = some x := by rfl) (hv : Vis X.env.scope x := by first | exact Or.inl rfl | exact Or.inr (Or.inl rfl) | exact Or.inr (Or.inr rfl)) (hd : (x == ("__debug__" : Str)) = false := by decide)
    (hcd : (x == ("__classdict__" : Str)) = false := by decide) : DE X W (.Name x pos) (nameE i) := by
  refine ⟨⟨fun pins s st H Q I h => (pe_var hN hv hd hcd).run pins s st H Q I ?_⟩⟩
  obtain ⟨ro, sd, M, R, S, P⟩ := h
  unfold nameE at P
  split at P
  · rename_i d e
    obtain ⟨v, e', r⟩ := S.2 i d e
    exact ⟨v, e', PostD.pure R r P⟩
  · exact P.elim
theorem de_constV {d : D} {v : V} (h : PE X e (tC v)) (r : ∀ ro H, Rep X.K X.mg ro H d v) : DE X W e (constE d) := by
  refine ⟨⟨fun pins s st H Q I q => h.run pins s st H Q I ?_⟩⟩
  obtain ⟨ro, sd, M, R, S, P⟩ := q
  exact PostD.pure R (r ro H) P
theorem de_int {i j} : DE X W (.Constant (.int i) j pos) (constE (.int i)) := de_constV pe_int fun _ _ => rfl
theorem de_bl {b j} : DE X W (.Constant (.bool b) j pos) (constE (.bl b)) := de_constV pe_bl fun _ _ => rfl
theorem de_non {j} : DE X W (.Constant .none j pos) (constE .non) := de_constV pe_non fun _ _ => rfl
/-- a text's codes -/
def sL (s : String) : List Nat := s.toList.map Char.toNat
theorem tx_sL (s : String) : tx (sL s) = Str.ofString s := (Str.ofString_eq_toList s).symm
theorem de_str {s : String} {j} : DE X W (.Constant (.str (Str.ofString s)) j pos) (constE (.str (sL s))) := de_constV pe_str fun _ _ => by
  show V.str _ = V.str (tx (sL s))
  rw [tx_sL]
/-- a class or def of the module, as a value -/
theorem de_glo {x : String} {f : Addr} (hg : Gl X (Str.ofString x)) (hm : X.mg (Str.ofString x) = some (.ref f)) (hd : (Str.ofString x == ("__debug__" : Str)) = false := by decide) : DE X W (.Name (Str.ofString x) pos) (constE (.glo x)) :=
  de_constV (pe_glob (v := .ref f) hg hm rfl hd) fun _ _ => ⟨f, rfl, hm⟩
/-- a text of the module -/
theorem de_gstr {x : Str} {s : String} {t : Tok} (hg : Gl X x) (hm : X.mg x = some (.str (Str.ofString s) t)) (hd : (x == ("__debug__" : Str)) = false := by decide) : DE X W (.Name x pos) (constE (.str (sL s))) :=
  de_constV (pe_glob (v := .str (Str.ofString s)) hg hm ⟨t, rfl⟩ hd) fun _ _ => by
    show V.str _ = V.str (tx (sL s))
    rw [tx_sL]
theorem de_gint {x : Str} {i : Int} {t : Tok} (hg : Gl X x) (hm : X.mg x = some (.int i t)) (hd : (x == ("__debug__" : Str)) = false := by decide) : DE X W (.Name x pos) (constE (.int i)) :=
  de_constV (pe_glob (v := .int i) hg hm ⟨t, rfl⟩ hd) fun _ _ => rfl

theorem de_op2 {t : TE} {f : D → D → MS → Res D} {r : R2} (hpe : PE X e t)
    (ht : ∀ st H Q, tOp r (liftE X.K X.mg W ma) (liftE X.K X.mg W mb) st H Q → t st H Q)
    (hr : ∀ (ro : Pl) (H : Hp) (M : MS) (d e : D) (x y : V) (E : XK) (Q : VK), RelS X.K X.mg ro M H → Rep X.K X.mg ro H d x → Rep X.K X.mg ro H e y → PostD X.K X.mg E ro H Q (f d e M) → r x y H Q) : DE X W e (binE f ma mb) := by
  refine ⟨⟨fun pins s st H Q I h => hpe.run pins s st H Q I (ht _ _ _ ?_)⟩⟩
  obtain ⟨ro, sd, M, R, S, P⟩ := h
  refine ⟨ro, sd, M, R, S, (Post.bind P).imp fun x H1 ⟨ro1, M1, d, R1, P1, r1, q1⟩ => ?_⟩
  refine ⟨ro1, sd, M1, R1, S.mono P1, (Post.bind q1).imp fun y H2 ⟨ro2, M2, e, R2, P2, r2, q2⟩ => ?_⟩
  exact hr ro2 H2 M2 d e x y _ Q R2 (Rep.mono P2 d x r1) r2 q2
theorem de_op {op : Operator} {f : D → D → MS → Res D} (ho : OpS X (binaryOp op) f) (ha : DE X W a ma) (hb : DE X W b mb) : DE X W (.BinOp a op b pos) (binE f ma mb) := by
  obtain ⟨r, h1, h2⟩ := ho
  exact de_op2 (pe_op h1 ha.pe hb.pe) (fun _ _ _ h => h) h2
theorem de_cmp {op : CmpOp} {f : D → D → MS → Res D} (ho : OpS X (compareOp op) f) (ha : DE X W a ma) (hb : DE X W b mb) (hm : behindInMarks op b = false := by first | exact nobehind _ (by decide) (by decide) | rfl) : DE X W (.Compare a [op] [b] pos) (binE f ma mb) := by
  obtain ⟨r, h1, h2⟩ := ho
  exact de_op2 (pe_cmpR h1 ha.pe hb.pe hm) (fun _ _ _ h => h) h2
theorem de_ix {f : D → D → MS → Res D} (ho : IxS X f) (ha : DE X W a ma) (hb : DE X W b mb) (hs : PlainIx b := by exact fun _ _ => rfl) : DE X W (.Subscript a b pos) (binE f ma mb) := by
  obtain ⟨r, h1, h2⟩ := ho
  exact de_op2 (pe_ix h1 ha.pe hb.pe hs) (fun _ _ _ h => h) h2
theorem de_un {op : UnaryOp} {f : D → MS → Res D} (ho : UnS X (unaryOp op) f) (ha : DE X W a ma) : DE X W (.UnaryOp op a pos) (unE f ma) := by
  obtain ⟨r, h1, h2⟩ := ho
  refine ⟨⟨fun pins s st H Q I h => (pe_un h1 ha.pe).run pins s st H Q I ?_⟩⟩
  obtain ⟨ro, sd, M, R, S, P⟩ := h
  exact ⟨ro, sd, M, R, S, (Post.bind P).imp fun x H1 ⟨ro1, M1, d, R1, P1, r1, q1⟩ => h2 ro1 H1 M1 d x _ Q R1 r1 q1⟩
/-- tests -/
theorem dt_cmp {op : CmpOp} {f : D → D → MS → Res D} (ho : OpS X (compareOp op) f) (ha : DE X W a ma) (hb : DE X W b mb) (hm : behindInMarks op b = false := by first | exact nobehind _ (by decide) (by decide) | rfl) : DT X W (.Compare a [op] [b] pos) (valB (binE f ma mb)) := by
  obtain ⟨r, h1, h2⟩ := ho
  refine ⟨⟨fun pins s st H Q I h => (pt_cmpR h1 ha.pe hb.pe hm).run pins s st H Q I ?_⟩⟩
  obtain ⟨ro, sd, M, R, S, P⟩ := h
  have P : PostB X.K X.mg (fun c d H' => W c d st H') ro H Q ((binE f ma mb sd M).bind _) := P
  have P2 := Post.bind (R := fun ro' H' d v => Rep X.K X.mg ro' H' d v) P
  refine ⟨ro, sd, M, R, S, (Post.bind P2).imp fun x H1 ⟨ro1, M1, d, R1, P1, r1, q1⟩ => ?_⟩
  refine ⟨ro1, sd, M1, R1, S.mono P1, (Post.bind q1).imp fun y H2 ⟨ro2, M2, e, R2, Pr2, r2, q2⟩ => ?_⟩
  refine h2 ro2 H2 M2 d e x y _ _ R2 (Rep.mono Pr2 d x r1) r2 (q2.imp fun z H3 ⟨ro3, M3, g, R3, Pr3, r3, q3⟩ => ?_)
  cases g with
  | bl k =>
    cases (show z = V.bl k from r3)
    exact ⟨k, rfl, q3 ro3 H3 k R3 (Pres.refl _ _) rfl⟩
  | _ => exact q3.elim
theorem dt_val (h : DE X W e ma) (he : ∀ whole, isTrue e X.env whole = (do let v ← whole; standAt e.pos; holding [v] (truthy v)) := by intro _; rfl) : DT X W e (valB ma) := by
  refine ⟨⟨fun pins s st H Q I q => (pt_val h.pe he).run pins s st H Q I ?_⟩⟩
  obtain ⟨ro, sd, M, R, S, P⟩ := q
  refine ⟨ro, sd, M, R, S, (Post.bind P).imp fun x H1 ⟨ro1, M1, d, R1, P1, r1, q1⟩ => ?_⟩
  cases d with
  | bl k =>
    cases (show x = V.bl k from r1)
    exact ⟨k, rfl, q1 ro1 H1 k R1 (Pres.refl _ _) rfl⟩
  | _ => exact q1.elim
theorem tru_of {K : PySem.W.Frag} {mg : Str → Option Value} {ro : Pl} {H : Hp} {M : MS} (R : RelS K mg ro M H) {d : D} {x : V} (r : Rep K mg ro H d x) {k : Bool} (e : truD M d = some k) : TruV K x H k := by
  cases d with
  | non => cases (show x = V.non from r); cases e; rfl
  | bl b => cases (show x = V.bl b from r); cases e; rfl
  | int i => cases (show x = V.int i from r); cases e; rfl
  | str y =>
    cases (show x = V.str (tx y) from r)
    have e' : (if y.length ≤ 1000000 then some ((y.length : Int) != 0) else none) = some k := e
    split at e'
    · rename_i h
      cases e'
      exact ⟨by show (tx y).cps.size ≤ _; simpa using line_le h, by simp [Str.length]⟩
    · cases e'
  | lst ds =>
    cases e
    obtain ⟨a, vs, rfl, h, _, q⟩ := r
    refine .inl ⟨vs, SqL.of h, ?_⟩
    have := q.len
    cases ds <;> cases vs <;> simp_all
  | flst ds =>
    cases e
    obtain ⟨a, vs, rfl, h, q⟩ := r
    refine .inl ⟨vs, h.sq, ?_⟩
    have := q.len
    cases ds <;> cases vs <;> simp_all
  | tup ds =>
    cases e
    obtain ⟨a, vs, rfl, h, q⟩ := r
    refine .inr (.inl ⟨vs, h.sq, ?_⟩)
    have := q.len
    cases ds <;> cases vs <;> simp_all
  | cell n =>
    have e' : (match M[n]? with | some (.lst ds) => some (!ds.isEmpty) | _ => none) = some k := e
    split at e'
    · rename_i ds hm
      cases e'
      obtain ⟨a, ho, rfl, _, h, vs, rfl, q⟩ := R.cellAt r hm
      refine .inl ⟨vs, SqL.of h, ?_⟩
      have := q.len
      cases ds <;> cases vs <;> simp_all
    · cases e'
  | _ => cases e
theorem dt_tru (h : DE X W e ma) (he : ∀ whole, isTrue e X.env whole = (do let v ← whole; standAt e.pos; holding [v] (truthy v)) := by intro _; rfl) : DT X W e (truB ma) := by
  refine ⟨⟨fun pins s st H Q I q => (pt_truth h.pe he).run pins s st H Q I ?_⟩⟩
  obtain ⟨ro, sd, M, R, S, P⟩ := q
  refine ⟨ro, sd, M, R, S, (Post.bind P).imp fun x H1 ⟨ro1, M1, d, R1, P1, r1, q1⟩ => ?_⟩
  cases e : truD M1 d with
  | some k =>
    rw [e] at q1
    exact ⟨k, tru_of R1 r1 e, q1 ro1 H1 k R1 (Pres.refl _ _) rfl⟩
  | none => rw [e] at q1; exact q1.elim
theorem dt_not (ha : DT X W a ta) : DT X W (.UnaryOp .Not a pos) (notB ta) := by
  refine ⟨⟨fun pins s st H Q I q => (pt_not ha.pt).run pins s st H Q I ?_⟩⟩
  obtain ⟨ro, sd, M, R, S, P⟩ := q
  refine ⟨ro, sd, M, R, S, (Post.bind P).imp fun x H1 ⟨ro1, M1, d, R1, P1, r1, q1⟩ => ?_⟩
  subst r1
  exact q1 ro1 H1 _ R1 (Pres.refl _ _) rfl
theorem DW.dt (h : DW X W e ta) : DT X W e ta := ⟨h.pw.pt⟩
theorem dw_and1 (ha : DT X W a ta) : DW X W (.BoolOp .And [a] pos) ta := ⟨pw_and1 ha.pt⟩
theorem dw_or1 (ha : DT X W a ta) : DW X W (.BoolOp .Or [a] pos) ta := ⟨pw_or1 ha.pt⟩
theorem dw_and (ha : DT X W a ta) (hb : DW X W (.BoolOp .And (b :: es) pos) tb) : DW X W (.BoolOp .And (a :: b :: es) pos) (andB ta tb) := by
  refine ⟨⟨fun wh pins s st H Q I q => (pw_and ha.pt hb.pw).run wh pins s st H Q I ?_⟩⟩
  obtain ⟨ro, sd, M, R, S, P⟩ := q
  refine ⟨ro, sd, M, R, S, (Post.bind P).imp fun x H1 ⟨ro1, M1, d, R1, P1, r1, q1⟩ => ?_⟩
  subst r1
  cases x with
  | true => rw [if_pos rfl] at q1 ⊢; exact ⟨ro1, sd, M1, R1, S.mono P1, q1⟩
  | false => rw [if_neg Bool.false_ne_true] at q1 ⊢; exact q1 ro1 H1 _ R1 (Pres.refl _ _) rfl
theorem dw_or (ha : DT X W a ta) (hb : DW X W (.BoolOp .Or (b :: es) pos) tb) : DW X W (.BoolOp .Or (a :: b :: es) pos) (orB ta tb) := by
  refine ⟨⟨fun wh pins s st H Q I q => (pw_or ha.pt hb.pw).run wh pins s st H Q I ?_⟩⟩
  obtain ⟨ro, sd, M, R, S, P⟩ := q
  refine ⟨ro, sd, M, R, S, (Post.bind P).imp fun x H1 ⟨ro1, M1, d, R1, P1, r1, q1⟩ => ?_⟩
  subst r1
  cases x with
  | false => rw [if_neg Bool.false_ne_true] at q1 ⊢; exact ⟨ro1, sd, M1, R1, S.mono P1, q1⟩
  | true => rw [if_pos rfl] at q1 ⊢; exact q1 ro1 H1 _ R1 (Pres.refl _ _) rfl
/-- truth values -/
theorem de_one {op} (h : DE X W a ma) : DE X W (.BoolOp op [a] pos) ma := ⟨pe_one h.pe⟩
theorem de_and (ha : DE X W a ma) (hb : DE X W (.BoolOp .And (b :: es) pos) mb) : DE X W (.BoolOp .And (a :: b :: es) pos) (andE ma mb) := by
  refine ⟨⟨fun pins s st H Q I q => (pe_and ha.pe hb.pe).run pins s st H Q I ?_⟩⟩
  obtain ⟨ro, sd, M, R, S, P⟩ := q
  refine ⟨ro, sd, M, R, S, (Post.bind P).imp fun x H1 ⟨ro1, M1, d, R1, P1, r1, q1⟩ => ?_⟩
  cases d with
  | bl k =>
    cases (show x = V.bl k from r1)
    refine ⟨k, rfl, ?_⟩
    cases k with
    | true => rw [if_pos rfl]; exact ⟨ro1, sd, M1, R1, S.mono P1, q1⟩
    | false => rw [if_neg Bool.false_ne_true]; exact PostD.pure (d := .bl false) R1 rfl q1
  | _ => exact q1.elim
theorem de_or (ha : DE X W a ma) (hb : DE X W (.BoolOp .Or (b :: es) pos) mb) : DE X W (.BoolOp .Or (a :: b :: es) pos) (orE ma mb) := by
  refine ⟨⟨fun pins s st H Q I q => (pe_or ha.pe hb.pe).run pins s st H Q I ?_⟩⟩
  obtain ⟨ro, sd, M, R, S, P⟩ := q
  refine ⟨ro, sd, M, R, S, (Post.bind P).imp fun x H1 ⟨ro1, M1, d, R1, P1, r1, q1⟩ => ?_⟩
  cases d with
  | bl k =>
    cases (show x = V.bl k from r1)
    refine ⟨k, rfl, ?_⟩
    cases k with
    | false => rw [if_neg Bool.false_ne_true]; exact ⟨ro1, sd, M1, R1, S.mono P1, q1⟩
    | true => rw [if_pos rfl]; exact PostD.pure (d := .bl true) R1 rfl q1
  | _ => exact q1.elim
theorem de_not (ha : DE X W a ma) : DE X W (.UnaryOp .Not a pos) (notE ma) := by
  refine ⟨⟨fun pins s st H Q I q => (pe_not ha.pe).run pins s st H Q I ?_⟩⟩
  obtain ⟨ro, sd, M, R, S, P⟩ := q
  refine ⟨ro, sd, M, R, S, (Post.bind P).imp fun x H1 ⟨ro1, M1, d, R1, P1, r1, q1⟩ => ?_⟩
  cases d with
  | bl k =>
    cases (show x = V.bl k from r1)
    exact ⟨k, rfl, PostD.pure (d := .bl (!k)) R1 rfl q1⟩
  | _ => exact q1.elim
theorem de_if (hc : DT X W c tc) (ha : DE X W a ma) (hb : DE X W b mb) : DE X W (.IfExp c a b pos) (ifE tc ma mb) := by
  refine ⟨⟨fun pins s st H Q I q => (pe_ifExp hc.pt ha.pe hb.pe).run pins s st H Q I ?_⟩⟩
  obtain ⟨ro, sd, M, R, S, P⟩ := q
  refine ⟨ro, sd, M, R, S, (Post.bind P).imp fun x H1 ⟨ro1, M1, d, R1, P1, r1, q1⟩ => ?_⟩
  subst r1
  cases x with
  | true => rw [if_pos rfl] at q1 ⊢; exact ⟨ro1, sd, M1, R1, S.mono P1, q1⟩
  | false => rw [if_neg Bool.false_ne_true] at q1 ⊢; exact ⟨ro1, sd, M1, R1, S.mono P1, q1⟩
/-- arguments, displays -/
theorem da_nil : DA X W [] nilA := by
  refine ⟨⟨fun pos pins s st H Q I q => pa_nil.run pos pins s st H Q I ?_⟩⟩
  obtain ⟨ro, sd, M, R, S, P⟩ := q
  exact P ro H [] R (Pres.refl _ _) rfl
theorem da_cons (ha : DE X W e ma) (hr : DA X W es ms) (hs : starEach (e :: es) X.env = (false, eval e X.env) :: starEach es X.env := by rfl) : DA X W (e :: es) (consA ma ms) := by
  refine ⟨⟨fun pos pins s st H Q I q => (pa_cons ha.pe hr.pa hs).run pos pins s st H Q I ?_⟩⟩
  obtain ⟨ro, sd, M, R, S, P⟩ := q
  refine ⟨ro, sd, M, R, S, (Post.bind P).imp fun x H1 ⟨ro1, M1, d, R1, P1, r1, q1⟩ => ?_⟩
  refine ⟨ro1, sd, M1, R1, S.mono P1, (Post.bind q1).imp fun xs H2 ⟨ro2, M2, ds, R2, P2, r2, q2⟩ => ?_⟩
  exact q2 ro2 H2 _ R2 (Pres.refl _ _) ⟨x, xs, rfl, Rep.mono P2 d x r1, r2⟩
theorem de_tup {k} (h : DA X W es ms) : DE X W (.Tuple es k pos) (tupE ms) := by
  refine ⟨⟨fun pins s st H Q I q => (pe_tup h.pa).run pins s st H Q I ?_⟩⟩
  obtain ⟨ro, sd, M, R, S, P⟩ := q
  refine ⟨ro, sd, M, R, S, (Post.bind P).imp fun xs H1 ⟨ro1, M1, ds, R1, P1, r1, q1⟩ => ?_⟩
  split at q1
  · rename_i hl
    exact ⟨by rw [← r1.len]; exact line_le hl, PostD.newT R1 r1 q1⟩
  · exact q1.elim
theorem de_lst (h : DA X W es ms) : DE X W (.List es pos) (lstE ms) := by
  refine ⟨⟨fun pins s st H Q I q => (pe_lst h.pa).run pins s st H Q I ?_⟩⟩
  obtain ⟨ro, sd, M, R, S, P⟩ := q
  refine ⟨ro, sd, M, R, S, (Post.bind P).imp fun xs H1 ⟨ro1, M1, ds, R1, P1, r1, q1⟩ => ?_⟩
  split at q1
  · rename_i hl
    exact ⟨by rw [← r1.len]; exact line_le hl, PostD.newL R1 r1 q1⟩
  · exact q1.elim
theorem de_cel (h : DA X W es ms) : DE X W (.List es pos) (celE ms) := by
  refine ⟨⟨fun pins s st H Q I q => (pe_lst h.pa).run pins s st H Q I ?_⟩⟩
  obtain ⟨ro, sd, M, R, S, P⟩ := q
  refine ⟨ro, sd, M, R, S, (Post.bind P).imp fun xs H1 ⟨ro1, M1, ds, R1, P1, r1, q1⟩ => ?_⟩
  split at q1
  · rename_i hl
    exact ⟨by rw [← r1.len]; exact line_le hl, PostD.newC R1 r1 q1⟩
  · exact q1.elim
/-- calls of built-ins -/
theorem de_callB {x : Str} {p : Pos} {id : String} {f : List D → MS → Res D} (hc : CallS X (.builtin id) f) (hg : Gl X x) (hm : X.mg x = none) (hv : bootBuiltins x = some (.builtin id)) (ha : DA X W (e :: es) ms) (hn : x ≠ "__name__" := by decide) (hdb : (x == ("__debug__" : Str)) = false := by decide)
    (he : starEach (e :: es) X.env = (false, eval e X.env) :: starEach es X.env := by rfl) (hpl : (backTo pos (starEach es X.env)).any (·.1) = false := by rfl) : DE X W (.Call (.Name x p) (e :: es) [] pos) (appE f ms) := by
  obtain ⟨r, h1, h2⟩ := hc
  refine ⟨⟨fun pins s st H Q I q => (pe_callB h1 hg hm hv ha.pa hn hdb he hpl).run pins s st H Q I ?_⟩⟩
  obtain ⟨ro, sd, M, R, S, P⟩ := q
  exact ⟨ro, sd, M, R, S, (Post.bind P).imp fun xs H1 ⟨ro1, M1, ds, R1, P1, r1, q1⟩ => h2 ro1 H1 M1 ds xs _ Q R1 r1 q1⟩
theorem de_callTy {x : Str} {p : Pos} {T : String} {f : List D → MS → Res D} (hc : CallS X (.type T) f) (hg : Gl X x) (hm : X.mg x = none) (hv : bootBuiltins x = some (.type T)) (ha : DA X W (e :: es) ms) (hn : x ≠ "__name__" := by decide) (hdb : (x == ("__debug__" : Str)) = false := by decide)
    (he : starEach (e :: es) X.env = (false, eval e X.env) :: starEach es X.env := by rfl) (hpl : (backTo pos (starEach es X.env)).any (·.1) = false := by rfl) : DE X W (.Call (.Name x p) (e :: es) [] pos) (appE f ms) := by
  obtain ⟨r, h1, h2⟩ := hc
  refine ⟨⟨fun pins s st H Q I q => (pe_callTy h1 hg hm hv ha.pa hn hdb he hpl).run pins s st H Q I ?_⟩⟩
  obtain ⟨ro, sd, M, R, S, P⟩ := q
  exact ⟨ro, sd, M, R, S, (Post.bind P).imp fun xs H1 ⟨ro1, M1, ds, R1, P1, r1, q1⟩ => h2 ro1 H1 M1 ds xs _ Q R1 r1 q1⟩
end
end DL

/-! DL: statements, loops, defs. -/
namespace DL
open PySem PySem.Spec L2
open PyProof.Rows hiding St

abbrev W0 : WX := fun _ _ _ _ => False
/-- what a body's context gives -/
structure Ctx (X : Cx) (W : WX) : Prop where
  tk : Takes X W
  po : PassesOwn (model X.prog X.w) X.A X.env X.xe
  calm : X.calm = true

def SRes.ofE {A : Type} (x : Res A) (sd : SD) (k : A → MS → SRes) : SRes := match x with
  | .ok a M => k a M
  | .exc C ns ds M => .exc C ns ds sd M
  | .stuck => .stuck
@[simp] theorem SRes.ofE_ok {A : Type} (a : A) (M : MS) (sd : SD) (k : A → MS → SRes) : SRes.ofE (.ok a M) sd k = k a M := rfl
@[simp] theorem SRes.ofE_exc {A : Type} (C : String) (ns : List String) (ds : List D) (M : MS) (sd : SD) (k : A → MS → SRes) : SRes.ofE (.exc C ns ds M) sd k = .exc C ns ds sd M := rfl
@[simp] theorem SRes.ofE_stuck {A : Type} (sd : SD) (k : A → MS → SRes) : SRes.ofE .stuck sd k = .stuck := rfl
def SRes.seq (x : SRes) (k : SD → MS → SRes) : SRes := match x with
  | .nx sd M => k sd M
  | r => r
@[simp] theorem SRes.seq_nx (sd : SD) (M : MS) (k : SD → MS → SRes) : (SRes.nx sd M).seq k = k sd M := rfl
@[simp] theorem SRes.seq_ret (d : D) (M : MS) (k : SD → MS → SRes) : (SRes.ret d M).seq k = .ret d M := rfl
@[simp] theorem SRes.seq_brk (sd : SD) (M : MS) (k : SD → MS → SRes) : (SRes.brk sd M).seq k = .brk sd M := rfl
@[simp] theorem SRes.seq_ct (sd : SD) (M : MS) (k : SD → MS → SRes) : (SRes.ct sd M).seq k = .ct sd M := rfl
@[simp] theorem SRes.seq_exc (C : String) (ns : List String) (ds : List D) (sd : SD) (M : MS) (k : SD → MS → SRes) : (SRes.exc C ns ds sd M).seq k = .exc C ns ds sd M := rfl
@[simp] theorem SRes.seq_stuck (k : SD → MS → SRes) : SRes.stuck.seq k = .stuck := rfl

section
variable {K : PySem.W.Frag} {mg : Str → Option Value} {W : WX} {ro ro1 : Pl} {H H1 : Hp} {D0 : Ends}
theorem PostS.moves {x : SRes} (h : PostS K mg W ro H D0 x) (p : Pres ro H ro1 H1) : PostS K mg W ro1 H1 D0 x := by
  cases x with
  | nx sd M => exact fun ro' H' st rs q r => h ro' H' st rs (p.trans q) r
  | ret d M => exact fun ro' H' v rs q r => h ro' H' v rs (p.trans q) r
  | brk sd M => exact fun ro' H' st rs q r => h ro' H' st rs (p.trans q) r
  | ct sd M => exact fun ro' H' st rs q r => h ro' H' st rs (p.trans q) r
  | exc C ns ds sd M => exact fun ro' H' st cls dd rs q r x => h ro' H' st cls dd rs (p.trans q) r x
  | stuck => exact h
theorem PostS.ofE {A B : Type} {R : Pl → Hp → A → B → Prop} {x : Res A} {sd : SD} {st : St} {k : A → MS → SRes} (h : PostS K mg W ro H D0 (SRes.ofE x sd k)) (S : RepSt K mg ro H sd st) :
    Post R K mg (fun c d H' => W c d st H') ro H (fun v H1 => ∃ ro1 M1 a, RelS K mg ro1 M1 H1 ∧ Pres ro H ro1 H1 ∧ R ro1 H1 a v ∧ PostS K mg W ro1 H1 D0 (k a M1)) x := by
  cases x with
  | ok a M => exact fun ro' H' v rs q r => ⟨ro', M, a, rs, q, r, PostS.moves h q⟩
  | exc C ns ds M => exact fun ro' H' cls dd rs q r => h ro' H' st cls dd rs q (S.mono q) r
  | stuck => exact h
theorem PostS.seq {x : SRes} {k : SD → MS → SRes} (h : PostS K mg W ro H D0 (x.seq k)) :
    PostS K mg W ro H { D0 with nx := fun st H1 => ∃ ro1 sd M1, RelS K mg ro1 M1 H1 ∧ RepSt K mg ro1 H1 sd st ∧ Pres ro H ro1 H1 ∧ PostS K mg W ro1 H1 D0 (k sd M1) } x := by
  cases x with
  | nx sd M => exact fun ro' H' st rs q r => ⟨ro', sd, M, rs, r, q, PostS.moves h q⟩
  | ret d M => exact h
  | brk sd M => exact h
  | ct sd M => exact h
  | exc C ns ds sd M => exact h
  | stuck => exact h
theorem PostS.imp {x : SRes} {D1 : Ends} (h : PostS K mg W ro H D0 x) (h1 : ∀ st H', D0.nx st H' → D1.nx st H') (h2 : ∀ v H', D0.rt v H' → D1.rt v H') (h3 : ∀ st H', D0.bk st H' → D1.bk st H') (h4 : ∀ st H', D0.ct st H' → D1.ct st H') : PostS K mg W ro H D1 x := by
  cases x with
  | nx sd M => exact fun ro' H' st rs q r => h1 _ _ (h ro' H' st rs q r)
  | ret d M => exact fun ro' H' v rs q r => h2 _ _ (h ro' H' v rs q r)
  | brk sd M => exact fun ro' H' st rs q r => h3 _ _ (h ro' H' st rs q r)
  | ct sd M => exact fun ro' H' st rs q r => h4 _ _ (h ro' H' st rs q r)
  | exc C ns ds sd M => exact h
  | stuck => exact h
end

/-! ### statements -/
def passS : MST := fun sd M => .nx sd M
def seqS (a b : MST) : MST := fun sd M => (a sd M).seq b
def setS (i : Nat) (m : ME) : MST := fun sd M => SRes.ofE (m sd M) sd fun d M1 => .nx (sd.set i (some d)) M1
def exprS (m : ME) : MST := fun sd M => SRes.ofE (m sd M) sd fun _ M1 => .nx sd M1
def retS (m : ME) : MST := fun sd M => SRes.ofE (m sd M) sd fun d M1 => .ret d M1
def retNS : MST := fun _ M => .ret .non M
def ifS (c : MB) (a b : MST) : MST := fun sd M => SRes.ofE (c sd M) sd fun k M1 => if k = true then a sd M1 else b sd M1
def stuckS : MST := fun _ _ => .stuck
/-- name op= e -/
def augS (i : Nat) (f : D → D → MS → Res D) (m : ME) : MST := fun sd M => SRes.ofE (nameE i sd M) sd fun x M1 => SRes.ofE (m sd M1) sd fun y M2 => SRes.ofE (f x y M2) sd fun d M3 => .nx (sd.set i (some d)) M3
/-- o[i] = e: a list's item -/
def setItemD (M : MS) (o i v : D) : Option MS := match o, i with
  | .cell n, .int k => match M[n]? with
    | some (.lst ds) => match ixN ds.length k with
      | some j => some (M.set n (.lst (ds.set j v)))
      | none => none
    | _ => none
  | _, _ => none
def putS (mo mi m : ME) : MST := fun sd M => SRes.ofE (m sd M) sd fun v M1 => SRes.ofE (mo sd M1) sd fun o M2 => SRes.ofE (mi sd M2) sd fun i M3 => match setItemD M3 o i v with
  | some M4 => .nx sd M4
  | none => .stuck

section
variable {X : Cx} {W : WX} {s : Stmt} {ss rest : List Stmt} {e c : Expr} {pos : Pos} {m ma mb mc : ME} {tc : MB} {sa sb : MST}
theorem dss_nil : DSs X W [] passS := by
  refine ⟨⟨fun pins s st H D0 I q => pss_nil.run pins s st H D0 I ?_⟩⟩
  obtain ⟨ro, sd, M, R, S, P⟩ := q
  exact P ro H st R (Pres.refl _ _) S
theorem dss_one (h : DS X W s sa) : DSs X W [s] sa := ⟨pss_one h.ps⟩
theorem dss_cons (h : DS X W s sa) (hr : DSs X W rest sb) : DSs X W (s :: rest) (seqS sa sb) := by
  refine ⟨⟨fun pins s st H D0 I q => (pss_cons h.ps hr.ps).run pins s st H D0 I ?_⟩⟩
  obtain ⟨ro, sd, M, R, S, P⟩ := q
  exact ⟨ro, sd, M, R, S, (PostS.seq P).imp (fun st' H' ⟨ro1, sd1, M1, R1, S1, P1, q1⟩ => ⟨ro1, sd1, M1, R1, S1, q1⟩) (fun _ _ h => h) (fun _ _ h => h) (fun _ _ h => h)⟩
theorem ds_pass : DS X W (.Pass pos) passS := by
  refine ⟨⟨fun pins s st H D0 I q => ps_pass.run pins s st H D0 I ?_⟩⟩
  obtain ⟨ro, sd, M, R, S, P⟩ := q
  exact P ro H st R (Pres.refl _ _) S
/-- a statement that the law never comes to -/
theorem ds_never : DS X W s stuckS := ⟨⟨fun pins s st H D0 I ⟨_, _, _, _, _, P⟩ => P.elim⟩⟩
theorem dss_never : DSs X W ss stuckS := ⟨⟨fun pins s st H D0 I ⟨_, _, _, _, _, P⟩ => P.elim⟩⟩
theorem de_never : DE X W e (fun _ _ => .stuck) := ⟨⟨fun pins s st H D0 I ⟨_, _, _, _, _, P⟩ => P.elim⟩⟩
theorem ds_set {i : Nat} {x : Str} {pos' : Pos} (he : DE X W e m) (hN : X.N.Nodup) (hi : X.N[i]? = some x := by rfl) (hx : Loc X.env.scope x := by first | exact Or.inl rfl | exact Or.inr rfl) (hs : swapsWith e (some (.Name x pos')) pos.line X.env = pure false := by rfl)
    (hf : X.fn x = true ∨ X.env.scope.names.lookup x = some .local := by first | exact .inl rfl | exact .inr rfl | assumption) : DS X W (.Assign [.Name x pos'] e pos) (setS i m) := by
  refine ⟨⟨fun pins s st H D0 I q => (ps_set hN hi hx he.pe hs hf).run pins s st H D0 I ?_⟩⟩
  obtain ⟨ro, sd, M, R, S, P⟩ := q
  refine ⟨ro, sd, M, R, S, (PostS.ofE P S).imp fun x H1 ⟨ro1, M1, d, R1, P1, r1, q1⟩ => ?_⟩
  exact q1 ro1 H1 _ R1 (Pres.refl _ _) ((S.mono P1).set r1)
theorem ds_expr (he : DE X W e m) (hs : swapsWith e none pos.line X.env = pure false := by rfl) : DS X W (.Expr e pos) (exprS m) := by
  refine ⟨⟨fun pins s st H D0 I q => (ps_expr he.pe hs).run pins s st H D0 I ?_⟩⟩
  obtain ⟨ro, sd, M, R, S, P⟩ := q
  refine ⟨ro, sd, M, R, S, (PostS.ofE P S).imp fun x H1 ⟨ro1, M1, d, R1, P1, r1, q1⟩ => ?_⟩
  exact q1 ro1 H1 _ R1 (Pres.refl _ _) (S.mono P1)
theorem ds_ret (he : DE X W e m) : DS X W (.Return (some e) pos) (retS m) := by
  refine ⟨⟨fun pins s st H D0 I q => (ps_ret he.pe).run pins s st H D0 I ?_⟩⟩
  obtain ⟨ro, sd, M, R, S, P⟩ := q
  refine ⟨ro, sd, M, R, S, (PostS.ofE P S).imp fun x H1 ⟨ro1, M1, d, R1, P1, r1, q1⟩ => ?_⟩
  exact q1 ro1 H1 _ R1 (Pres.refl _ _) r1
theorem ds_retN : DS X W (.Return none pos) retNS := by
  refine ⟨⟨fun pins s st H D0 I q => ps_retN.run pins s st H D0 I ?_⟩⟩
  obtain ⟨ro, sd, M, R, S, P⟩ := q
  exact P ro H _ R (Pres.refl _ _) rfl
theorem ds_if {A B : List Stmt} (hc : DT X W c tc) (ha : DSs X W A sa) (hb : DSs X W B sb) : DS X W (.If c A B pos) (ifS tc sa sb) := by
  refine ⟨⟨fun pins s st H D0 I q => (ps_if hc.pt ha.ps hb.ps).run pins s st H D0 I ?_⟩⟩
  obtain ⟨ro, sd, M, R, S, P⟩ := q
  refine ⟨ro, sd, M, R, S, (PostS.ofE P S).imp fun x H1 ⟨ro1, M1, d, R1, P1, r1, q1⟩ => ?_⟩
  subst r1
  cases x with
  | true => rw [if_pos rfl] at q1 ⊢; exact ⟨ro1, sd, M1, R1, S.mono P1, q1⟩
  | false => rw [if_neg Bool.false_ne_true] at q1 ⊢; exact ⟨ro1, sd, M1, R1, S.mono P1, q1⟩
theorem ds_put {o i : Expr} {tp : Pos} {mo mi : ME} (ho : DE X W o mo) (hi : DE X W i mi) (he : DE X W e m)
    (ha : ∀ v, assign (.Subscript o i tp) X.env v = (do
      let ov ← holding [v] (eval o X.env)
      let iv ← holding [v, ov] (eval i X.env)
      standAt tp
      holding [v, ov, iv] (setItem ov iv v)
      release [v, ov, iv] []) := by intro _; rfl)
    (hs : swapsWithSole [.Subscript o i tp] e pos.line X.env = pure false := by rfl) (hw : swappedStores [.Subscript o i tp] e X.env = pure none := by rfl)
    (h1 : (assignEach [.Subscript o i tp] X.env).map (·.2) = [assign (.Subscript o i tp) X.env] := by rfl) : DS X W (.Assign [.Subscript o i tp] e pos) (putS mo mi m) := by
  refine ⟨⟨fun pins s st H D0 I q => (ps_asg he.pe (pg_sub ho.pe hi.pe set_list ha) hs hw h1).run pins s st H D0 I ?_⟩⟩
  obtain ⟨ro, sd, M, R, S, P⟩ := q
  refine ⟨ro, sd, M, R, S, (PostS.ofE P S).imp fun x H1 ⟨ro1, M1, d, R1, P1, r1, q1⟩ => ?_⟩
  refine ⟨ro1, sd, M1, R1, S.mono P1, (PostS.ofE q1 (S.mono P1)).imp fun y H2 ⟨ro2, M2, o', R2, P2, r2, q2⟩ => ?_⟩
  refine ⟨ro2, sd, M2, R2, (S.mono P1).mono P2, (PostS.ofE q2 ((S.mono P1).mono P2)).imp fun z H3 ⟨ro3, M3, i', R3, P3, r3, q3⟩ => ?_⟩
  have r1' := Rep.mono P3 _ _ (Rep.mono P2 _ _ r1)
  have r2' := Rep.mono P3 _ _ r2
  cases o' with
  | cell n =>
    cases i' with
    | int k =>
      have q3 : PostS X.K X.mg W ro3 H3 D0 (match (match M3[n]? with | some (.lst ds) => (match ixN ds.length k with | some j => some (M3.set n (.lst (ds.set j d))) | none => none) | _ => none) with | some M4 => .nx sd M4 | none => .stuck) := q3
      cases hm : M3[n]? with
      | none => rw [hm] at q3; exact q3.elim
      | some mo' =>
        rw [hm] at q3
        cases mo' with
        | lst ds =>
          cases hj : ixN ds.length k with
          | none => simp only [hj] at q3; exact q3.elim
          | some j =>
            simp only [hj] at q3
            obtain ⟨a, ho, rfl, g, h, vs, rfl, q⟩ := R3.cellAt r2' hm
            cases (show z = V.int k from r3)
            obtain ⟨R4, P4⟩ := R3.change (o := .lst (vs.set j x)) (mo := .lst (ds.set j d)) g ⟨_, rfl, q.set j r1'⟩
            exact ⟨a, vs, k, j, rfl, rfl, h, by rw [← q.len]; exact hj, q3 ro3 _ _ R4 P4 ((((S.mono P1).mono P2).mono P3).mono P4)⟩
        | _ => exact q3.elim
    | _ => exact q3.elim
  | _ => exact q3.elim
end

/-! ### what is walked -/
structure ItD where
  ds : List D
  chk : MS → Prop
/-- J walks it, from the heap H on -/
def IterOk (K : PySem.W.Frag) (mg : Str → Option Value) (ro : Pl) (H : Hp) (it : ItD) (J : It) : Prop :=
  ∀ (ro' : Pl) (H' : Hp) (M' : MS), RelS K mg ro' M' H' → PresW ro H ro' H' → it.chk M' →
    J.stop it.ds.length H' ∧ ∀ (i : Nat) (d : D), it.ds[i]? = some d → J.go i H' ∧ ∀ x H'', J.yld i H' x H'' → (∀ a o, H' a = some o → H'' a = some o) ∧ Rep K mg ro' H'' d x
abbrev MI := SD → MS → Res ItD
def liftI (K : PySem.W.Frag) (mg : Str → Option Value) (W : WX) (m : MI) : TI := fun st H Q => ∃ ro sd M, RelS K mg ro M H ∧ RepSt K mg ro H sd st ∧ Post (fun ro' H' it J => IterOk K mg ro' H' it J) K mg (fun c d H' => W c d st H') ro H Q (m sd M)
structure DI (X : Cx) (W : WX) (tg iter : Expr) (m : MI) : Prop where
  pi : PI X tg iter (liftI X.K X.mg W m)
abbrev MG := D → SD → Option SD
def liftG (K : PySem.W.Frag) (mg : Str → Option Value) (g : MG) (ix : List Nat) : TG := fun v st H Q => ∃ ro sd M d, RelS K mg ro M H ∧ RepSt K mg ro H sd st ∧ Rep K mg ro H d v ∧ ∃ sd', g d sd = some sd' ∧
  ∀ st', RepSt K mg ro H sd' st' → (∀ vs : List Nat, (∀ i, i ∈ ix → i ∈ vs) → wipe st' vs = wipe st vs) → Q st' H
structure DG (X : Cx) (tg : Expr) (g : MG) (ix : List Nat) : Prop where
  pg : PG X tg (liftG X.K X.mg g ix)
theorem wipe_get (st : St) : ∀ (vs : List Nat) (j : Nat), (wipe st vs)[j]? = if j ∈ vs ∧ j < st.length then some none else st[j]?
  | [], j => by simp [wipe]
  | v :: vs, j => by
    unfold wipe
    have ih := wipe_get st vs j
    have hl := wipe_length st vs
    by_cases h : v = j
    · subst h
      by_cases hv : v < st.length
      · rw [List.getElem?_set_self (by rw [hl]; exact hv), if_pos ⟨List.mem_cons_self, hv⟩]
      · rw [List.getElem?_eq_none (by rw [List.length_set, hl]; omega), if_neg (fun z => hv z.2), List.getElem?_eq_none (by omega)]
    · rw [List.getElem?_set_ne h, ih]
      have : (j ∈ v :: vs) ↔ (j ∈ vs) := by simp [Ne.symm h]
      simp only [this]
theorem wipe_set (st : St) {i : Nat} {x : Option V} {vs : List Nat} (h : i ∈ vs) : wipe (st.set i x) vs = wipe st vs := by
  apply List.ext_getElem?
  intro j
  rw [wipe_get, wipe_get, List.length_set]
  by_cases hj : i = j
  · subst hj
    by_cases hl : i < st.length
    · rw [if_pos ⟨h, hl⟩, if_pos ⟨h, hl⟩]
    · rw [if_neg (fun z => hl z.2), if_neg (fun z => hl z.2), List.getElem?_eq_none (by rw [List.length_set]; omega), List.getElem?_eq_none (by omega)]
  · rw [List.getElem?_set_ne hj]
def nameG (i : Nat) : MG := fun d sd => some (sd.set i (some d))
/-- (a, b, ..) = a tuple -/
def setAll : List Nat → List D → SD → Option SD
  | [], [], sd => some sd
  | i :: is, d :: ds, sd => setAll is ds (sd.set i (some d))
  | _, _, _ => none
def tupG (is : List Nat) : MG := fun d sd => match d with
  | .tup ds => setAll is ds sd
  | _ => none
open Classical in
noncomputable def forGo (chk : MS → Prop) (g : MG) (body : MST) : List D → SD → MS → SRes
  | [], sd, M => if chk M then .nx sd M else .stuck
  | d :: r, sd, M => if chk M then (match g d sd with
    | none => .stuck
    | some sd1 => match body sd1 M with
      | .nx sd2 M2 => forGo chk g body r sd2 M2
      | .ct sd2 M2 => forGo chk g body r sd2 M2
      | .brk sd2 M2 => .nx sd2 M2
      | .ret v M2 => .ret v M2
      | .exc C ns ds sd2 M2 => .exc C ns ds sd2 M2
      | .stuck => .stuck) else .stuck
noncomputable def forS (it : MI) (g : MG) (body : MST) : MST := fun sd M => SRes.ofE (it sd M) sd fun i M1 => forGo i.chk g body i.ds sd M1
def brkS : MST := fun sd M => .brk sd M
def ctS : MST := fun sd M => .ct sd M
/-- while, at most so many turns -/
def whileGo (c : MB) (body : MST) : Nat → SD → MS → SRes
  | 0, _, _ => .stuck
  | n + 1, sd, M => SRes.ofE (c sd M) sd fun k M1 => if k = true then (match body sd M1 with
      | .nx sd2 M2 => whileGo c body n sd2 M2
      | .ct sd2 M2 => whileGo c body n sd2 M2
      | .brk sd2 M2 => .nx sd2 M2
      | .ret v M2 => .ret v M2
      | .exc C ns ds sd2 M2 => .exc C ns ds sd2 M2
      | .stuck => .stuck) else .nx sd M1
def whileS (n : Nat) (c : MB) (body : MST) : MST := fun sd M => whileGo c body n sd M

section
variable {X : Cx} {W : WX} {tg iter : Expr} {pos : Pos} {body : List Stmt} {mi : MI} {g : MG} {ix : List Nat} {sb : MST} {c : Expr} {tc : MB}
theorem ds_brk : DS X W (.Break pos) brkS := by
  refine ⟨⟨fun pins s st H D0 I q => ps_break.run pins s st H D0 I ?_⟩⟩
  obtain ⟨ro, sd, M, R, S, P⟩ := q
  exact P ro H st R (Pres.refl _ _) S
theorem ds_ct : DS X W (.Continue pos) ctS := by
  refine ⟨⟨fun pins s st H D0 I q => ps_continue.run pins s st H D0 I ?_⟩⟩
  obtain ⟨ro, sd, M, R, S, P⟩ := q
  exact P ro H st R (Pres.refl _ _) S
theorem ds_for (cx : Ctx X W) (hi : DI X W tg iter mi) (hg : DG X tg g ix) (hb : DSs X W body sb) (hs : ∀ x, foldedSetIterable iter X.env x = pure x := by intro _; rfl) : DS X W (.For tg iter body [] pos) (forS mi g sb) := by
  refine ⟨⟨fun pins s st H D0 I q => (ps_for cx.po cx.calm hi.pi hg.pg hb.ps hs).run pins s st H D0 I ?_⟩⟩
  obtain ⟨ro, sd, M, R, S, P⟩ := q
  refine ⟨ro, sd, M, R, S, (PostS.ofE P S).imp fun J H1 ⟨ro1, M1, it, R1, P1, J1, q1⟩ => ?_⟩
  -- the invariant: what is left of the run
  refine ⟨fun i m st' H' => m = it.ds.length - i ∧ i ≤ it.ds.length ∧ ∃ ro' sd' M', RelS X.K X.mg ro' M' H' ∧ RepSt X.K X.mg ro' H' sd' st' ∧ Pres ro1 H1 ro' H' ∧ PostS X.K X.mg W ro' H' D0 (forGo it.chk g sb (it.ds.drop i) sd' M'),
    ⟨_, rfl, Nat.zero_le _, ro1, sd, M1, R1, S.mono P1, Pres.refl _ _, q1⟩, ?_⟩
  rintro i m st' H' ⟨rfl, hle, ro', sd', M', R', S', P', q'⟩
  by_cases hlt : i < it.ds.length
  · have hd : it.ds.drop i = it.ds[i] :: it.ds.drop (i + 1) := List.drop_eq_getElem_cons hlt
    rw [hd] at q'
    unfold forGo at q'
    by_cases hc : it.chk M'
    · rw [if_pos hc] at q'
      obtain ⟨_, hJ⟩ := J1 ro' H' M' R' P'.w hc
      obtain ⟨hgo, hy⟩ := hJ i _ (List.getElem?_eq_getElem hlt)
      refine .inr ⟨hgo, fun st2 H2 => ∃ ro2 sd2 M2, RelS X.K X.mg ro2 M2 H2 ∧ RepSt X.K X.mg ro2 H2 sd2 st2 ∧ Pres ro1 H1 ro2 H2 ∧ PostS X.K X.mg W ro2 H2 D0 (forGo it.chk g sb (it.ds.drop (i + 1)) sd2 M2),
        fun st2 H2 ⟨ro2, sd2, M2, R2, S2, P2, q2⟩ => ⟨it.ds.length - (i + 1), by omega, rfl, hlt, ro2, sd2, M2, R2, S2, P2, q2⟩, fun x H'' y => ?_⟩
      obtain ⟨hgrow, hrep⟩ := hy x H'' y
      obtain ⟨R'', P''⟩ := R'.grow hgrow
      cases hgd : g it.ds[i] sd' with
      | none => rw [hgd] at q'; exact q'.elim
      | some sd1 =>
        rw [hgd] at q'
        refine ⟨ro', sd', M', _, R'', S'.mono P'', hrep, sd1, hgd, fun st1 S1 _ => ?_⟩
        refine ⟨ro', sd1, M', R'', S1, ?_⟩
        have q' := q'
        dsimp only at q'
        cases hbd : sb sd1 M' with
        | nx sd2 M2 => rw [hbd] at q'; exact fun ro2 H2 st2 R2 P2 S2 => ⟨ro2, sd2, M2, R2, S2, (P'.trans P'').trans P2, PostS.moves q' (P''.trans P2)⟩
        | ct sd2 M2 => rw [hbd] at q'; exact fun ro2 H2 st2 R2 P2 S2 => ⟨ro2, sd2, M2, R2, S2, (P'.trans P'').trans P2, PostS.moves q' (P''.trans P2)⟩
        | brk sd2 M2 => rw [hbd] at q'; exact fun ro2 H2 st2 R2 P2 S2 => q' ro2 H2 st2 R2 (P''.trans P2) S2
        | ret v M2 => rw [hbd] at q'; exact fun ro2 H2 st2 R2 P2 S2 => q' ro2 H2 st2 R2 (P''.trans P2) S2
        | exc C ns ds sd2 M2 => rw [hbd] at q'; exact fun ro2 H2 st2 cls dd R2 P2 S2 r => q' ro2 H2 st2 cls dd R2 (P''.trans P2) S2 r
        | stuck => rw [hbd] at q'; exact q'
    · rw [if_neg hc] at q'; exact q'.elim
  · have e : i = it.ds.length := by omega
    subst e
    rw [List.drop_length] at q'
    unfold forGo at q'
    by_cases hc : it.chk M'
    · rw [if_pos hc] at q'
      exact .inl ⟨(J1 ro' H' M' R' P'.w hc).1, q' ro' H' st' R' (Pres.refl _ _) S'⟩
    · rw [if_neg hc] at q'; exact q'.elim
theorem ds_while {n : Nat} (cx : Ctx X W) (hc : DT X W c tc) (hb : DSs X W body sb) : DS X W (.While c body [] pos) (whileS n tc sb) := by
  refine ⟨⟨fun pins s st H D0 I q => (ps_while cx.po hc.pt hb.ps).run pins s st H D0 I ?_⟩⟩
  obtain ⟨ro, sd, M, R, S, P⟩ := q
  refine ⟨fun k st' H' => ∃ ro' sd' M', RelS X.K X.mg ro' M' H' ∧ RepSt X.K X.mg ro' H' sd' st' ∧ PostS X.K X.mg W ro' H' D0 (whileGo tc sb k sd' M'), ⟨n, ro, sd, M, R, S, P⟩, ?_⟩
  rintro k st' H' ⟨ro', sd', M', R', S', q'⟩
  cases k with
  | zero => exact q'.elim
  | succ k =>
    unfold whileGo at q'
    refine ⟨ro', sd', M', R', S', (PostS.ofE q' S').imp fun b H1 ⟨ro1, M1, b', R1, P1, r1, q1⟩ => ?_⟩
    subst r1
    cases b with
    | false => rw [if_neg Bool.false_ne_true] at q1 ⊢; exact q1 ro1 H1 st' R1 (Pres.refl _ _) (S'.mono P1)
    | true =>
      rw [if_pos rfl] at q1 ⊢
      refine ⟨fun st2 H2 => ∃ ro2 sd2 M2, RelS X.K X.mg ro2 M2 H2 ∧ RepSt X.K X.mg ro2 H2 sd2 st2 ∧ PostS X.K X.mg W ro2 H2 D0 (whileGo tc sb k sd2 M2), fun st2 H2 h => ⟨k, Nat.lt_succ_self _, h⟩, ro1, sd', M1, R1, S'.mono P1, ?_⟩
      cases hbd : sb sd' M1 with
      | nx sd2 M2 => rw [hbd] at q1; exact fun ro2 H2 st2 R2 P2 S2 => ⟨ro2, sd2, M2, R2, S2, PostS.moves q1 P2⟩
      | ct sd2 M2 => rw [hbd] at q1; exact fun ro2 H2 st2 R2 P2 S2 => ⟨ro2, sd2, M2, R2, S2, PostS.moves q1 P2⟩
      | brk sd2 M2 => rw [hbd] at q1; exact fun ro2 H2 st2 R2 P2 S2 => q1 ro2 H2 st2 R2 P2 S2
      | ret v M2 => rw [hbd] at q1; exact fun ro2 H2 st2 R2 P2 S2 => q1 ro2 H2 st2 R2 P2 S2
      | exc C ns ds sd2 M2 => rw [hbd] at q1; exact fun ro2 H2 st2 cls dd R2 P2 S2 r => q1 ro2 H2 st2 cls dd R2 P2 S2 r
      | stuck => rw [hbd] at q1; exact q1
/-- targets -/
theorem dg_name {i : Nat} {x : Str} (hN : X.N.Nodup) (hi : X.N[i]? = some x := by rfl) (hx : Loc X.env.scope x := by first | exact Or.inl rfl | exact Or.inr rfl) (hf : X.fn x = true ∨ X.env.scope.names.lookup x = some .local := by first | exact .inl rfl | exact .inr rfl | assumption) : DG X (.Name x pos) (nameG i) [i] := by
  refine ⟨⟨fun pins s st H v u Q I r h => (pg_name hN hi hx hf).run pins s st H v u Q I r ?_⟩⟩
  obtain ⟨ro, sd, M, d, R, S, rd, sd', e, q⟩ := h
  cases e
  exact q _ (S.set rd) fun vs h => wipe_set st (h i List.mem_cons_self)
end

/-! ### defs -/
abbrev FM := List D → MS → Res D
/-- a def's promise by its function over data -/
def spD (K : PySem.W.Frag) (mg : Str → Option Value) (n : Nat) (F : FM) : Sp := fun vs H Q E => vs.length = n ∧ ∃ ro ds M, RelS K mg ro M H ∧ Reps K mg ro H ds vs ∧ PostD K mg E ro H Q (F ds M)
def startD (n : Nat) (ds : List D) : SD := ds.map some ++ List.replicate (n - ds.length) none
/-- a body's end as a call's end -/
def SRes.res : SRes → Res D
  | .nx _ M => .ok .non M
  | .ret d M => .ok d M
  | .exc C ns ds _ M => .exc C ns ds M
  | _ => .stuck
def runD (n : Nat) (body : MST) : FM := fun ds M => (body (startD n ds) M).res
theorem repSt_start {K : PySem.W.Frag} {mg : Str → Option Value} {ro : Pl} {H : Hp} {ds : List D} {vs : List V} {N : List Str} (r : Reps K mg ro H ds vs) : RepSt K mg ro H (startD N.length ds) (L2.start N vs) := by
  have hl := r.len
  refine ⟨by simp [startD, L2.start, hl], fun i d e => ?_⟩
  unfold startD at e
  by_cases hi : i < ds.length
  · rw [List.getElem?_append_left (by simpa using hi), List.getElem?_map] at e
    cases q : ds[i]? with
    | none => rw [q] at e; cases e
    | some x =>
      rw [q] at e; cases e
      obtain ⟨v, hv, rv⟩ := r.get q
      refine ⟨v, ?_, rv⟩
      unfold L2.start
      rw [List.getElem?_append_left (by simpa [← hl] using hi), List.getElem?_map, hv]
      rfl
  · rw [List.getElem?_append_right (by simpa using hi), List.getElem?_replicate] at e
    split at e <;> cases e
section
variable {P : Program} {w : World} {K : PySem.W.Frag} {mg : Str → Option Value} {base : Heap}
abbrev DOk (P : Program) (w : World) (K : PySem.W.Frag) (mg : Str → Option Value) (base : Heap) (k : Nat) (f : Addr) (fd : FuncData) (ps : List Str) (F : FM) : Prop :=
  FnOk P w K mg base (L2.CX P w) k f fd ps (spD K mg ps.length F)
/-- THE RULE for a def: its body as a derivation -/
theorem fun_ok {x qual : Str} {st : Stmt} {f : Addr} {fd : FuncData} {N ps : List Str} {k : Nat} {body : MST} {F : FM} (Fn : Fun K x qual st f fd) (S : FnScope N ps (defScope st))
    (hbody : ∀ (cdv : Value) (A : Around) (outer : List Env) (s : Shared) (H : Hp) (E : XK), Room k (A.deeper (envOfC qual (defScope st) s.heap.objs.size f cdv)) →
      Ctx (cxOf (L2.CX P w) P w K mg base N qual (defScope st) f cdv A outer s H E) (fun cls d _ H' => E cls d H') →
      DSs (cxOf (L2.CX P w) P w K mg base N qual (defScope st) f cdv A outer s H E) (fun cls d _ H' => E cls d H') (defBody st) body)
    (hF : ∀ ds M, ds.length = ps.length → F ds M ≠ .stuck → F ds M = runD N.length body ds M) : DOk P w K mg base (k + 1) f fd ps F := by
  refine Fn.okX S (fun vs H Q E h => h.1) fun cdv A outer s H vs Q E hr h => ?_
  obtain ⟨hl, ro, ds, M, R, rs, Po⟩ := h
  have hc : Ctx (cxOf (L2.CX P w) P w K mg base N qual (defScope st) f cdv A outer s H E) (fun cls d _ H' => E cls d H') := ⟨takes_of rfl rfl rfl rfl, passes_of rfl, rfl⟩
  refine ⟨_, (hbody cdv A outer s H E hr hc).ps, ro, startD N.length ds, M, R, repSt_start rs, ?_⟩
  have hne : F ds M ≠ .stuck := fun e => by rw [e] at Po; exact Po
  rw [hF ds M (by rw [rs.len]; exact hl) hne] at Po
  unfold runD at Po
  cases e : body (startD N.length ds) M with
  | nx sd M' => rw [e] at Po; exact fun ro' H' st rs q r => Po ro' H' .non rs q rfl
  | ret d M' => rw [e] at Po; exact Po
  | exc C ns ds' sd M' => rw [e] at Po; exact fun ro' H' st cls dd rs q _ r => Po ro' H' cls dd rs q r
  | brk sd M' => rw [e] at Po; exact Po.elim
  | ct sd M' => rw [e] at Po; exact Po.elim
  | stuck => rw [e] at Po; exact Po
end
end DL

/-! DL: the operators and built-ins by values. -/
namespace DL
open PySem PySem.Spec L2
open PyProof.Rows hiding St

section
variable {X : Cx}
theorem OpS.or {fv : Value → Value → Sem Value} {f g : D → D → MS → Res D} (hf : OpS X fv f) (hg : OpS X fv g) (h : D → D → MS → Bool) : OpS X fv (fun d e M => if h d e M = true then f d e M else g d e M) := by
  obtain ⟨r, h1, h2⟩ := hf
  obtain ⟨r', h1', h2'⟩ := hg
  refine ⟨_, OpR.or h1 h1', fun ro H M d e x y E Q R rx ry P => ?_⟩
  dsimp only at P
  by_cases hc : h d e M = true
  · rw [if_pos hc] at P; exact .inl (h2 ro H M d e x y E Q R rx ry P)
  · rw [if_neg hc] at P; exact .inr (h2' ro H M d e x y E Q R rx ry P)
theorem opS_int {fv : Value → Value → Sem Value} {C : Int → Int → Prop} {k : Int → Int → D} {kv : Int → Int → V} (ho : OpR X fv (rI C kv)) (hk : ∀ i j ro H, Rep X.K X.mg ro H (k i j) (kv i j)) {f : D → D → MS → Res D}
    (hf : ∀ d e M, f d e M ≠ .stuck → ∃ i j, d = .int i ∧ e = .int j ∧ C i j ∧ f d e M = .ok (k i j) M) : OpS X fv f := by
  refine ⟨_, ho, fun ro H M d e x y E Q R rx ry P => ?_⟩
  obtain ⟨i, j, rfl, rfl, hc, ef⟩ := hf d e M fun z => by rw [z] at P; exact P
  rw [ef] at P
  cases (show x = V.int i from rx)
  cases (show y = V.int j from ry)
  exact ⟨i, j, rfl, rfl, hc, PostD.pure R (hk i j ro H) P⟩
theorem opS_int0 {fv : Value → Value → Sem Value} {k : Int → Int → D} {kv : Int → Int → V} (ho : OpR X fv (rI0 kv)) (hk : ∀ i j ro H, Rep X.K X.mg ro H (k i j) (kv i j)) {f : D → D → MS → Res D}
    (hf : ∀ d e M, f d e M ≠ .stuck → ∃ i j, d = .int i ∧ e = .int j ∧ f d e M = .ok (k i j) M) : OpS X fv f := by
  refine ⟨_, ho, fun ro H M d e x y E Q R rx ry P => ?_⟩
  obtain ⟨i, j, rfl, rfl, ef⟩ := hf d e M fun z => by rw [z] at P; exact P
  rw [ef] at P
  cases (show x = V.int i from rx)
  cases (show y = V.int j from ry)
  exact ⟨i, j, rfl, rfl, PostD.pure R (hk i j ro H) P⟩
end

/-! ### + -/
def isI2 : D → D → MS → Bool := fun d e _ => match d, e with
  | .int _, .int _ => true
  | _, _ => false
def isS2 : D → D → MS → Bool := fun d e _ => match d, e with
  | .str _, .str _ => true
  | _, _ => false
def isT2 : D → D → MS → Bool := fun d e _ => match d, e with
  | .tup _, .tup _ => true
  | _, _ => false
def addI (d e : D) (M : MS) : Res D := match d, e with
  | .int i, .int j => .ok (.int (i + j)) M
  | _, _ => .stuck
def addS (d e : D) (M : MS) : Res D := match d, e with
  | .str x, .str y => if x.length + y.length ≤ 1000000 then .ok (.str (x ++ y)) M else .stuck
  | _, _ => .stuck
def addL (d e : D) (M : MS) : Res D := match lstOf M d, lstOf M e with
  | some xs, some ys => if xs.length + ys.length ≤ 1000000 then .ok (.lst (xs ++ ys)) M else .stuck
  | _, _ => .stuck
def addT (d e : D) (M : MS) : Res D := match d, e with
  | .tup xs, .tup ys => if xs.length + ys.length ≤ 1000000 then .ok (.tup (xs ++ ys)) M else .stuck
  | _, _ => .stuck
def addD : D → D → MS → Res D := fun d e M => if isI2 d e M = true then addI d e M else if isS2 d e M = true then addS d e M else if isT2 d e M = true then addT d e M else addL d e M
theorem Str.tx_append (x y : List Nat) : tx x ++ tx y = tx (x ++ y) := by
  show (⟨x.toArray ++ y.toArray⟩ : Str) = ⟨(x ++ y).toArray⟩
  simp
section
variable {X : Cx}
theorem opS_addI : OpS X (binaryOp .Add) addI := opS_int0 (k := fun i j => .int (i + j)) op_add (fun _ _ _ _ => rfl) fun d e M h => by
  cases d <;> cases e <;> first | exact absurd rfl h | exact ⟨_, _, rfl, rfl, rfl⟩
theorem opS_addS : OpS X (binaryOp .Add) addS := by
  refine ⟨_, op_add_str, fun ro H M d e x y E Q R rx ry P => ?_⟩
  cases d <;> cases e <;> try exact P.elim
  rename_i a b
  cases (show x = V.str (tx a) from rx)
  cases (show y = V.str (tx b) from ry)
  simp only [addS] at P
  split at P
  · rename_i hl
    refine ⟨_, _, rfl, rfl, by simp only [Str.length, List.size_toArray]; exact line_le hl, ?_⟩
    rw [Str.tx_append]
    exact PostD.pure (d := .str (a ++ b)) R rfl P
  · exact P.elim
theorem opS_addL : OpS X (binaryOp .Add) addL := by
  refine ⟨_, op_cat, fun ro H M d e x y E Q R rx ry P => ?_⟩
  unfold addL at P
  split at P
  · rename_i xs ys h1 h2
    obtain ⟨a, vs, rfl, ha, qa⟩ := lst_of R rx h1
    obtain ⟨b, ws, rfl, hb, qb⟩ := lst_of R ry h2
    split at P
    · rename_i hl
      exact ⟨a, b, vs, ws, rfl, rfl, ha, hb, by rw [← qa.len, ← qb.len]; exact line_le hl, PostD.newL R (qa.append qb) P⟩
    · exact P.elim
  · exact P.elim
theorem opS_addT : OpS X (binaryOp .Add) addT := by
  refine ⟨_, op_catA, fun ro H M d e x y E Q R rx ry P => ?_⟩
  cases d <;> cases e <;> try exact P.elim
  rename_i xs ys
  obtain ⟨a, vs, rfl, ha, qa⟩ := id rx
  obtain ⟨b, ws, rfl, hb, qb⟩ := id ry
  simp only [addT] at P
  split at P
  · rename_i hl
    refine ⟨a, b, vs, ws, rfl, rfl, ha.sq, hb.sq, by rw [← qa.len, ← qb.len]; exact line_le hl, fun e => ?_, fun _ e => ?_, fun _ _ => PostD.newT R (qa.append qb) P⟩
    · have : xs = [] := by have := qa.len; rw [e] at this; simpa using this
      subst this
      exact PostD.pure R ry P
    · have : ys = [] := by have := qb.len; rw [e] at this; simpa using this
      subst this
      rw [List.append_nil] at P
      exact PostD.pure R rx P
  · exact P.elim
theorem opS_add : OpS X (binaryOp .Add) addD := OpS.or opS_addI (OpS.or opS_addS (OpS.or opS_addT opS_addL isT2) isS2) isI2
end

/-! ### - * // % ** -/
def subI (d e : D) (M : MS) : Res D := match d, e with
  | .int i, .int j => .ok (.int (i - j)) M
  | _, _ => .stuck
def mulI (d e : D) (M : MS) : Res D := match d, e with
  | .int i, .int j => if (-(2 ^ 64) < i ∧ i < 2 ^ 64) ∨ (-(2 ^ 64) < j ∧ j < 2 ^ 64) then .ok (.int (i * j)) M else .stuck
  | _, _ => .stuck
/-- great factors -/
def mulW (d e : D) (M : MS) : Res D := match d, e with
  | .int i, .int j => if i.natAbs.log2 + j.natAbs.log2 < 1000000 then .ok (.int (i * j)) M else .stuck
  | _, _ => .stuck
def mulL (d e : D) (M : MS) : Res D := match lstOf M d, e with
  | some xs, .int k => if -1000 ≤ k ∧ k ≤ 1000 ∧ xs.length * k.toNat ≤ 1000000 then .ok (.lst (List.replicate k.toNat xs).flatten) M else .stuck
  | _, _ => .stuck
def fdivI (d e : D) (M : MS) : Res D := match d, e with
  | .int i, .int j => if 0 < j ∧ j < 1073741824 then .ok (.int (i / j)) M else .stuck
  | _, _ => .stuck
def fdivW (d e : D) (M : MS) : Res D := match d, e with
  | .int i, .int j => if 0 < j ∧ j.natAbs.log2 < 9000 then .ok (.int (i / j)) M else .stuck
  | _, _ => .stuck
def modI (d e : D) (M : MS) : Res D := match d, e with
  | .int i, .int j => if 0 < j then .ok (.int (i % j)) M else .stuck
  | _, _ => .stuck
def powI (d e : D) (M : MS) : Res D := match d, e with
  | .int i, .int j => if 0 ≤ j ∧ j ≤ 1000000 ∧ i.natAbs < 2 ^ 64 then .ok (.int (i ^ j.toNat)) M else .stuck
  | _, _ => .stuck
def mulD : D → D → MS → Res D := fun d e M => if isI2 d e M = true then mulI d e M else mulL d e M
section
variable {X : Cx}
theorem opS_sub : OpS X (binaryOp .Sub) subI := opS_int0 (k := fun i j => .int (i - j)) op_sub (fun _ _ _ _ => rfl) fun d e M h => by
  cases d <;> cases e <;> first | exact absurd rfl h | exact ⟨_, _, rfl, rfl, rfl⟩
theorem opS_mulI : OpS X (binaryOp .Mult) mulI := opS_int (k := fun i j => .int (i * j)) op_mul (fun _ _ _ _ => rfl) fun d e M h => by
  cases d <;> cases e <;> try exact absurd rfl h
  simp only [mulI] at h ⊢
  split at h
  · rename_i c; exact ⟨_, _, rfl, rfl, c, if_pos c⟩
  · exact absurd rfl h
theorem opS_mulW : OpS X (binaryOp .Mult) mulW := opS_int (k := fun i j => .int (i * j)) op_mulW (fun _ _ _ _ => rfl) fun d e M h => by
  cases d <;> cases e <;> try exact absurd rfl h
  simp only [mulW] at h ⊢
  split at h
  · rename_i c; exact ⟨_, _, rfl, rfl, c, if_pos c⟩
  · exact absurd rfl h
theorem opS_mulL : OpS X (binaryOp .Mult) mulL := by
  refine ⟨_, op_rep, fun ro H M d e x y E Q R rx ry P => ?_⟩
  unfold mulL at P
  split at P
  · rename_i xs k h1
    obtain ⟨a, vs, rfl, ha, qa⟩ := lst_of R rx h1
    cases (show y = V.int k from ry)
    split at P
    · rename_i hl
      exact ⟨a, k, vs, rfl, rfl, ha, by omega, by omega, by rw [← qa.len]; exact line_le hl.2.2, PostD.newL R (qa.flatten_replicate _) P⟩
    · exact P.elim
  · exact P.elim
theorem opS_mul : OpS X (binaryOp .Mult) mulD := OpS.or opS_mulI opS_mulL isI2
theorem opS_fdiv : OpS X (binaryOp .FloorDiv) fdivI := opS_int (k := fun i j => .int (i / j)) op_fdiv (fun _ _ _ _ => rfl) fun d e M h => by
  cases d <;> cases e <;> try exact absurd rfl h
  simp only [fdivI] at h ⊢
  split at h
  · rename_i c; exact ⟨_, _, rfl, rfl, c, if_pos c⟩
  · exact absurd rfl h
theorem opS_fdivW : OpS X (binaryOp .FloorDiv) fdivW := opS_int (k := fun i j => .int (i / j)) op_fdivW (fun _ _ _ _ => rfl) fun d e M h => by
  cases d <;> cases e <;> try exact absurd rfl h
  simp only [fdivW] at h ⊢
  split at h
  · rename_i c; exact ⟨_, _, rfl, rfl, c, if_pos c⟩
  · exact absurd rfl h
theorem opS_mod : OpS X (binaryOp .Mod) modI := opS_int (k := fun i j => .int (i % j)) op_mod (fun _ _ _ _ => rfl) fun d e M h => by
  cases d <;> cases e <;> try exact absurd rfl h
  simp only [modI] at h ⊢
  split at h
  · rename_i c; exact ⟨_, _, rfl, rfl, c, if_pos c⟩
  · exact absurd rfl h
theorem opS_pow : OpS X (binaryOp .Pow) powI := opS_int (k := fun i j => .int (i ^ j.toNat)) op_pow (fun _ _ _ _ => rfl) fun d e M h => by
  cases d <;> cases e <;> try exact absurd rfl h
  simp only [powI] at h ⊢
  split at h
  · rename_i c; exact ⟨_, _, rfl, rfl, c, if_pos c⟩
  · exact absurd rfl h
def negI (d : D) (M : MS) : Res D := match d with
  | .int i => .ok (.int (-i)) M
  | _ => .stuck
theorem unS_neg : UnS X (unaryOp .USub) negI := by
  refine ⟨_, un_neg, fun ro H M d x E Q R rx P => ?_⟩
  cases d <;> try exact P.elim
  rename_i i
  cases (show x = V.int i from rx)
  exact ⟨i, rfl, PostD.pure (d := .int (-i)) R rfl P⟩
end

/-! ### < <= > >= -/
def cmpI (p : Int → Int → Bool) (d e : D) (M : MS) : Res D := match d, e with
  | .int i, .int j => .ok (.bl (p i j)) M
  | _, _ => .stuck
def cmpT (p : List Nat → List Nat → Bool) (d e : D) (M : MS) : Res D := match d, e with
  | .str x, .str y => .ok (.bl (p x y)) M
  | _, _ => .stuck
def ltD : D → D → MS → Res D := fun d e M => if isI2 d e M = true then cmpI (fun i j => decide (i < j)) d e M else cmpT (fun x y => decide (x < y)) d e M
def leD : D → D → MS → Res D := fun d e M => if isI2 d e M = true then cmpI (fun i j => decide (i ≤ j)) d e M else cmpT (fun x y => !decide (y < x)) d e M
def gtD : D → D → MS → Res D := fun d e M => if isI2 d e M = true then cmpI (fun i j => decide (j < i)) d e M else cmpT (fun x y => decide (y < x)) d e M
def geD : D → D → MS → Res D := fun d e M => if isI2 d e M = true then cmpI (fun i j => decide (j ≤ i)) d e M else cmpT (fun x y => !decide (x < y)) d e M
section
variable {X : Cx}
theorem opS_cmpI {op : CmpOp} {p : Int → Int → Bool} (ho : OpR X (compareOp op) (rI0 fun i j => .bl (p i j))) : OpS X (compareOp op) (cmpI p) := opS_int0 (k := fun i j => .bl (p i j)) ho (fun _ _ _ _ => rfl) fun d e M h => by
  cases d <;> cases e <;> first | exact absurd rfl h | exact ⟨_, _, rfl, rfl, rfl⟩
theorem opS_cmpT {op : CmpOp} {p : List Nat → List Nat → Bool} (ho : OpR X (compareOp op) (fun x y H Q => ∃ i j, x = .str i ∧ y = .str j ∧ Q (.bl (p i.cps.toList j.cps.toList)) H)) : OpS X (compareOp op) (cmpT p) := by
  refine ⟨_, ho, fun ro H M d e x y E Q R rx ry P => ?_⟩
  cases d <;> cases e <;> try exact P.elim
  rename_i a b
  cases (show x = V.str (tx a) from rx)
  cases (show y = V.str (tx b) from ry)
  exact ⟨_, _, rfl, rfl, PostD.pure (d := .bl (p a b)) R rfl P⟩
theorem opS_lt : OpS X (compareOp .Lt) ltD := OpS.or (opS_cmpI op_lt) (opS_cmpT op_lt_str) isI2
theorem opS_le : OpS X (compareOp .LtE) leD := OpS.or (opS_cmpI op_le) (opS_cmpT op_le_str) isI2
theorem opS_gt : OpS X (compareOp .Gt) gtD := OpS.or (opS_cmpI op_gt) (opS_cmpT op_gt_str) isI2
theorem opS_ge : OpS X (compareOp .GtE) geD := OpS.or (opS_cmpI op_ge) (opS_cmpT op_ge_str) isI2
end

/-! ### is None -/
def isN (d : D) : Bool := match d with
  | .non => true
  | _ => false
section
variable {X : Cx} {W : WX} {a : Expr} {pos p2 : Pos} {ma : ME} {j : Option String}
theorem rep_non {K : PySem.W.Frag} {mg : Str → Option Value} {ro : Pl} {H : Hp} {d : D} {x : V} (r : Rep K mg ro H d x) : decide (x = .non) = isN d := by
  cases d with
  | non => cases (show x = V.non from r); rfl
  | bl b => cases (show x = V.bl b from r); rfl
  | int i => cases (show x = V.int i from r); rfl
  | str y => cases (show x = V.str (tx y) from r); rfl
  | tup ds => obtain ⟨a, vs, rfl, _⟩ := r; rfl
  | lst ds => obtain ⟨a, vs, rfl, _⟩ := r; rfl
  | flst ds => obtain ⟨a, vs, rfl, _⟩ := r; rfl
  | obj C ns ds => obtain ⟨a, c, dx, vs, rfl, _⟩ := r; rfl
  | dic ks ds => obtain ⟨a, kl, vs, rfl, _⟩ := r; rfl
  | glo x => obtain ⟨a, rfl, _⟩ := r; rfl
  | ty n => cases (show x = V.ty n from r); rfl
  | exn C ns ds x d => obtain ⟨a, vs, ⟨rfl, _⟩, _⟩ := r; rfl
  | cell n => obtain ⟨a, rfl, _⟩ := r; rfl
def isNE (f : Bool → Bool) (m : ME) : ME := fun sd M => (m sd M).bind fun d M1 => .ok (.bl (f (isN d))) M1
theorem opS_isN : OpS X (compareOp .Is) (fun d e M => match e with | .non => .ok (.bl (isN d)) M | _ => .stuck) := by
  refine ⟨_, op_isN, fun ro H M d e x y E Q R rx ry P => ?_⟩
  cases e <;> try exact P.elim
  cases (show y = V.non from ry)
  exact ⟨rfl, by rw [rep_non rx]; exact PostD.pure (d := .bl (isN d)) R rfl P⟩
theorem opS_notN : OpS X (compareOp .IsNot) (fun d e M => match e with | .non => .ok (.bl (!isN d)) M | _ => .stuck) := by
  refine ⟨_, op_notN, fun ro H M d e x y E Q R rx ry P => ?_⟩
  cases e <;> try exact P.elim
  cases (show y = V.non from ry)
  exact ⟨rfl, by rw [rep_non rx]; exact PostD.pure (d := .bl (!isN d)) R rfl P⟩
end

/-! ### x[i] -/
def ixD (o i : D) (M : MS) : Res D := match i with
  | .int k => (match o with
    | .str x => if x.length ≤ 1000000 then (match atI x k with
      | some c => .ok (.str [c]) M
      | none => .stuck) else .stuck
    | _ => match seqOf M o with
      | some ds => (match atI ds k with
        | some d => .ok d M
        | none => .stuck)
      | none => .stuck)
  | _ => .stuck
theorem Reps.atI {K : PySem.W.Frag} {mg : Str → Option Value} {ro : Pl} {H : Hp} {ds : List D} {vs : List V} {k : Int} {d : D} (h : Reps K mg ro H ds vs) (e : L2.atI ds k = some d) : ∃ v, L2.atI vs k = some v ∧ Rep K mg ro H d v := by
  unfold L2.atI at e ⊢
  rw [← h.len]
  cases q : ixN ds.length k with
  | none => rw [q] at e; cases e
  | some j =>
    rw [q] at e
    exact h.get e
section
variable {X : Cx}
theorem ixS_any : IxS X ixD := by
  refine ⟨_, ix_seq, fun ro H M d e x y E Q R rx ry P => ?_⟩
  cases e <;> try exact P.elim
  rename_i k
  cases (show y = V.int k from ry)
  unfold ixD at P
  dsimp only at P
  split at P
  · rename_i z
    cases (show x = V.str (tx z) from rx)
    split at P
    · rename_i hl
      split at P
      · rename_i c hc
        refine .inr (.inr ⟨tx z, k, c, rfl, rfl, by simp only [Str.length, List.size_toArray]; exact line_le hl, hc, ?_⟩)
        exact PostD.pure (d := .str [c]) R rfl P
      · exact P.elim
    · exact P.elim
  · split at P
    · rename_i ds hs
      split at P
      · rename_i g hg
        obtain ⟨a, vs, rfl, ha, q⟩ := seq_of R rx hs
        obtain ⟨v, hv, rv⟩ := q.atI hg
        rcases ha with ha | ha
        · exact .inl ⟨a, vs, k, v, rfl, rfl, ha, hv, PostD.pure R rv P⟩
        · exact .inr (.inl ⟨a, vs, k, v, rfl, rfl, ha, hv, PostD.pure R rv P⟩)
      · exact P.elim
    · exact P.elim
end

/-! ### len, min, max, abs, int, bool, str, list, tuple -/
def lenF (ds : List D) (M : MS) : Res D := match ds with
  | [.str x] => if x.length ≤ 1000000 then .ok (.int x.length) M else .stuck
  | [.cell n] => (match M[n]? with
    | some (.lst es) => .ok (.int es.length) M
    | some (.dic ks _) => .stuck
    | _ => .stuck)
  | [d] => (match seqOf M d with
    | some es => .ok (.int es.length) M
    | none => .stuck)
  | _ => .stuck
def max2F (ds : List D) (M : MS) : Res D := match ds with
  | [.int i, .int j] => .ok (.int (if j > i then j else i)) M
  | _ => .stuck
def min2F (ds : List D) (M : MS) : Res D := match ds with
  | [.int i, .int j] => .ok (.int (if j < i then j else i)) M
  | _ => .stuck
def absF (ds : List D) (M : MS) : Res D := match ds with
  | [.int i] => .ok (.int (if i < 0 then -i else i)) M
  | _ => .stuck
def intF (ds : List D) (M : MS) : Res D := match ds with
  | [.int i] => .ok (.int i) M
  | [.bl k] => .ok (.int (if k then 1 else 0)) M
  | _ => .stuck
def boolF (ds : List D) (M : MS) : Res D := match ds with
  | [.int i] => .ok (.bl (i != 0)) M
  | [.bl k] => .ok (.bl k) M
  | _ => .stuck
theorem reps1 {K : PySem.W.Frag} {mg : Str → Option Value} {ro : Pl} {H : Hp} {d : D} {vs : List V} (h : Reps K mg ro H [d] vs) : ∃ v, vs = [v] ∧ Rep K mg ro H d v := by
  obtain ⟨v, r, rfl, q, t⟩ := h
  cases (show r = [] from t)
  exact ⟨v, rfl, q⟩
theorem reps2 {K : PySem.W.Frag} {mg : Str → Option Value} {ro : Pl} {H : Hp} {d e : D} {vs : List V} (h : Reps K mg ro H [d, e] vs) : ∃ v w, vs = [v, w] ∧ Rep K mg ro H d v ∧ Rep K mg ro H e w := by
  obtain ⟨v, r, rfl, q, t⟩ := h
  obtain ⟨w, rfl, q'⟩ := reps1 t
  exact ⟨v, w, rfl, q, q'⟩
section
variable {X : Cx}
theorem callS_len : CallS X (.builtin "len") lenF := by
  refine ⟨_, call_len, fun ro H M ds xs E Q R rs P => ?_⟩
  have seqs : ∀ (d : D) (es : List D), ds = [d] → seqOf M d = some es → PostD X.K X.mg E ro H Q (.ok (.int es.length) M) → ∃ x n, xs = [x] ∧ LenV X.K x H n ∧ Q (.int n) H := fun d es hd he P' => by
    subst hd
    obtain ⟨v, rfl, q⟩ := reps1 rs
    obtain ⟨a, vs, rfl, ha, q'⟩ := seq_of R q he
    refine ⟨_, vs.length, rfl, ?_, by rw [← q'.len]; exact PostD.pure (d := .int es.length) R rfl P'⟩
    rcases ha with ha | ha
    · exact .inl ⟨vs, ha, rfl⟩
    · exact .inr ⟨vs, ha, rfl⟩
  unfold lenF at P
  split at P
  · rename_i x
    obtain ⟨v, rfl, q⟩ := reps1 rs
    cases (show v = V.str (tx x) from q)
    split at P
    · rename_i hl
      exact ⟨_, x.length, rfl, ⟨by simp only [Str.length, List.size_toArray]; exact line_le hl, by simp [Str.length]⟩, PostD.pure (d := .int x.length) R rfl P⟩
    · exact P.elim
  · rename_i n
    split at P
    · rename_i es hm
      exact seqs _ es rfl (by simp [seqOf, hm]) P
    · exact P.elim
    · exact P.elim
  · rename_i d _ _
    split at P
    · rename_i es he
      exact seqs d es rfl he P
    · exact P.elim
  · exact P.elim
theorem callS_max2 (hc : X.calm = true) : CallS X (.builtin "max") max2F := by
  refine ⟨_, call_max2 hc, fun ro H M ds xs E Q R rs P => ?_⟩
  unfold max2F at P
  split at P
  · obtain ⟨v, w, rfl, q, q'⟩ := reps2 rs
    cases (show v = V.int _ from q)
    cases (show w = V.int _ from q')
    exact ⟨_, _, rfl, PostD.pure (d := .int _) R rfl P⟩
  · exact P.elim
theorem callS_min2 (hc : X.calm = true) : CallS X (.builtin "min") min2F := by
  refine ⟨_, call_min2 hc, fun ro H M ds xs E Q R rs P => ?_⟩
  unfold min2F at P
  split at P
  · obtain ⟨v, w, rfl, q, q'⟩ := reps2 rs
    cases (show v = V.int _ from q)
    cases (show w = V.int _ from q')
    exact ⟨_, _, rfl, PostD.pure (d := .int _) R rfl P⟩
  · exact P.elim
theorem callS_abs : CallS X (.builtin "abs") absF := by
  refine ⟨_, call_abs, fun ro H M ds xs E Q R rs P => ?_⟩
  unfold absF at P
  split at P
  · obtain ⟨v, rfl, q⟩ := reps1 rs
    cases (show v = V.int _ from q)
    exact ⟨_, rfl, PostD.pure (d := .int _) R rfl P⟩
  · exact P.elim
theorem callS_int : CallS X (.type "int") intF := by
  refine ⟨_, call_int1, fun ro H M ds xs E Q R rs P => ?_⟩
  unfold intF at P
  split at P
  · obtain ⟨v, rfl, q⟩ := reps1 rs
    cases (show v = V.int _ from q)
    exact .inl ⟨_, rfl, PostD.pure (d := .int _) R rfl P⟩
  · obtain ⟨v, rfl, q⟩ := reps1 rs
    cases (show v = V.bl _ from q)
    exact .inr ⟨_, rfl, PostD.pure (d := .int _) R rfl P⟩
  · exact P.elim
theorem callS_bool : CallS X (.type "bool") boolF := by
  refine ⟨_, call_bool1, fun ro H M ds xs E Q R rs P => ?_⟩
  unfold boolF at P
  split at P
  · obtain ⟨v, rfl, q⟩ := reps1 rs
    cases (show v = V.int _ from q)
    exact .inl ⟨_, rfl, PostD.pure (d := .bl _) R rfl P⟩
  · obtain ⟨v, rfl, q⟩ := reps1 rs
    cases (show v = V.bl _ from q)
    exact .inr ⟨_, rfl, PostD.pure (d := .bl _) R rfl P⟩
  · exact P.elim
end
end DL

/-! DL: what is walked; comprehensions. -/
namespace DL
open PySem PySem.Spec L2
open PyProof.Rows hiding St

/-! ### walks over a value -/
def itD (M : MS) (d : D) : Option ItD := match d with
  | .str x => some ⟨x.map fun c => .str [c], fun _ => True⟩
  | .tup ds => some ⟨ds, fun _ => True⟩
  | .lst ds => some ⟨ds, fun _ => True⟩
  | .flst ds => some ⟨ds, fun _ => True⟩
  | .cell n => match M[n]? with
    | some (.lst ds) => some ⟨ds, fun M' => M'[n]? = some (.lst ds)⟩
    | _ => none
  | _ => none
def anyI (m : ME) : MI := fun sd M => (m sd M).bind fun d M1 => match itD M1 d with
  | some it => .ok it M1
  | none => .stuck
def isStr : D → Bool
  | .str _ => true
  | _ => false
def isTup : D → Bool
  | .tup _ => true
  | _ => false
section
variable {K : PySem.W.Frag} {mg : Str → Option Value} {ro : Pl} {H : Hp} {M : MS}
theorem Reps.at_ {ds : List D} {vs : List V} (h : Reps K mg ro H ds vs) {i : Nat} {d : D} (e : ds[i]? = some d) {x : V} (ex : vs[i]? = some x) : Rep K mg ro H d x := by
  obtain ⟨v, hv, r⟩ := h.get e
  rw [ex] at hv; cases hv
  exact r
theorem iterOk_tup {ds : List D} {x : V} (r : Rep K mg ro H (.tup ds) x) : ∃ a vs, x = .ref a ∧ SqT K H a vs ∧ IterOk K mg ro H ⟨ds, fun _ => True⟩ (Itt K a) := by
  obtain ⟨a, vs, rfl, q, rs⟩ := id r
  refine ⟨a, vs, rfl, q.sq, fun ro' H' M' R' P' _ => ?_⟩
  obtain ⟨a', vs', e, q', rs'⟩ := Rep.monoW P' _ _ r
  cases e
  refine ⟨⟨vs', q'.sq, by rw [← rs'.len]; exact Nat.le_refl _⟩, fun i d hd => ⟨?_, fun y H'' hy => ?_⟩⟩
  · obtain ⟨v, hv, _⟩ := rs'.get hd
    exact ⟨vs', v, q'.sq, hv⟩
  · obtain ⟨rfl, hy⟩ := hy
    exact ⟨fun _ _ h => h, rs'.at_ hd (hy vs' q'.sq)⟩
theorem iterOk_lst {ds : List D} {d0 : D} {chk : MS → Prop} {x : V} (R : RelS K mg ro M H) (r : Rep K mg ro H d0 x) (e0 : seqOf M d0 = some ds) (hn : isTup d0 = false) (hc : ∀ M', chk M' → seqOf M' d0 = some ds) : ∃ a vs, x = .ref a ∧ SqL K H a vs ∧ IterOk K mg ro H ⟨ds, chk⟩ (Itl K a) := by
  have key : ∀ {ro' : Pl} {H' : Hp} {M' : MS}, RelS K mg ro' M' H' → Rep K mg ro' H' d0 x → seqOf M' d0 = some ds → ∃ a vs, x = .ref a ∧ SqL K H' a vs ∧ Reps K mg ro' H' ds vs := fun {ro' H' M'} R' r' e' => by
    cases d0 with
    | lst es =>
      cases (show some es = some ds from e')
      obtain ⟨a, vs, rfl, h, _, q⟩ := r'
      exact ⟨a, vs, rfl, SqL.of h, q⟩
    | flst es =>
      cases (show some es = some ds from e')
      obtain ⟨a, vs, rfl, h, q⟩ := r'
      exact ⟨a, vs, rfl, h.sq, q⟩
    | cell n =>
      have e' : (match M'[n]? with | some (.lst ds) => some ds | _ => none) = some ds := e'
      split at e'
      · rename_i es hm
        cases e'
        obtain ⟨a, ho, rfl, _, h, vs, rfl, q⟩ := R'.cellAt r' hm
        exact ⟨a, vs, rfl, SqL.of h, q⟩
      · cases e'
    | tup es => cases hn
    | _ => cases e'
  obtain ⟨a, vs, rfl, q, rs⟩ := key R r e0
  refine ⟨a, vs, rfl, q, fun ro' H' M' R' P' hM => ?_⟩
  obtain ⟨a', vs', e, q', rs'⟩ := key R' (Rep.monoW P' _ _ r) (hc M' hM)
  cases e
  refine ⟨⟨vs', q', by rw [← rs'.len]; exact Nat.le_refl _⟩, fun i d hd => ⟨?_, fun y H'' hy => ?_⟩⟩
  · obtain ⟨v, hv, _⟩ := rs'.get hd
    exact ⟨vs', v, q', hv⟩
  · obtain ⟨rfl, hy⟩ := hy
    exact ⟨fun _ _ h => h, rs'.at_ hd (hy vs' q')⟩
theorem iterOk_str {x : List Nat} : IterOk K mg ro H ⟨x.map fun c => .str [c], fun _ => True⟩ (Its (tx x)) := fun ro' H' M' R' P' _ => by
  refine ⟨by show (tx x).cps.size ≤ _; simp, fun i d hd => ⟨?_, fun y H'' hy => ?_⟩⟩
  · have := (List.getElem?_eq_some_iff.mp hd).1
    show i < (tx x).cps.size
    simpa using this
  · obtain ⟨rfl, c, hc, rfl⟩ := hy
    refine ⟨fun _ _ h => h, ?_⟩
    rw [List.getElem?_map] at hd
    have hc' : x[i]? = some c := by simpa using hc
    rw [hc'] at hd
    cases hd
    rfl
end
section
variable {X : Cx} {W : WX} {tg e : Expr} {m : ME}
theorem PI.or {X : Cx} {tg iter : Expr} {w w' : TI} (h : PI X tg iter w) (h' : PI X tg iter w') : PI X tg iter (fun st H R => w st H R ∨ w' st H R) :=
  ⟨fun pins s st H R I q => q.elim (h.run pins s st H R I) (h'.run pins s st H R I)⟩
theorem di_any (h : DE X W e m) : DI X W tg e (anyI m) := by
  refine ⟨⟨fun pins s st H Q I q => (PI.or (pi_list h.pe) (PI.or (pi_tup h.pe) (pi_str h.pe))).run pins s st H Q I ?_⟩⟩
  obtain ⟨ro, sd, M, R, S, P⟩ := q
  have P : Post _ X.K X.mg (fun c d H' => W c d st H') ro H Q ((m sd M).bind _) := P
  cases em : m sd M with
  | stuck => rw [em] at P; exact P.elim
  | exc C ns ds M1 => exact .inl ⟨ro, sd, M, R, S, by rw [em] at P ⊢; exact P⟩
  | ok d M1 =>
    rw [em, Res.bind_ok] at P
    have fin : ∀ (it : ItD), itD M1 d = some it → ∀ {ro1 : Pl} {H1 : Hp}, RelS X.K X.mg ro1 M1 H1 → Pres ro H ro1 H1 → ∀ J, IterOk X.K X.mg ro1 H1 it J → Q J H1 := fun it hi {ro1 H1} R1 Pr J hJ => by
      rw [hi] at P
      exact P ro1 H1 J R1 Pr hJ
    have lists : ∀ ds chk, itD M1 d = some ⟨ds, chk⟩ → seqOf M1 d = some ds → isTup d = false → (∀ M', chk M' → seqOf M' d = some ds) → iList X.K (liftE X.K X.mg W m) st H Q := fun ds chk h1 h2 h3 h4 =>
      ⟨ro, sd, M, R, S, by rw [em]; exact fun ro1 H1 v R1 Pr r => let ⟨a, vs, ev, q, o⟩ := iterOk_lst R1 r h2 h3 h4; ⟨a, ev, ⟨vs, q⟩, fin _ h1 R1 Pr _ o⟩⟩
    cases d with
    | str x => exact .inr (.inr ⟨ro, sd, M, R, S, by rw [em]; exact fun ro1 H1 v R1 Pr r => ⟨tx x, r, fin _ rfl R1 Pr _ iterOk_str⟩⟩)
    | tup ds => exact .inr (.inl ⟨ro, sd, M, R, S, by rw [em]; exact fun ro1 H1 v R1 Pr r => let ⟨a, vs, ev, q, o⟩ := iterOk_tup r; ⟨a, ev, ⟨vs, q⟩, fin _ rfl R1 Pr _ o⟩⟩)
    | lst ds => exact .inl (lists ds (fun _ => True) rfl rfl rfl fun _ _ => rfl)
    | flst ds => exact .inl (lists ds (fun _ => True) rfl rfl rfl fun _ _ => rfl)
    | cell n =>
      cases hm : M1[n]? with
      | none => exact (by simp [itD, hm, Post] at P : False).elim
      | some mo =>
        cases mo with
        | lst ds => exact .inl (lists ds (fun M' => M'[n]? = some (.lst ds)) (by simp [itD, hm]) (by simp [seqOf, hm]) rfl fun M' h => by simp [seqOf, h])
        | _ => exact (by simp [itD, hm, Post] at P : False).elim
    | _ => exact P.elim
/-! ### ranges, enumerate, reversed -/
def intsI (xs : List Int) : ItD := ⟨xs.map D.int, fun _ => True⟩
theorem iterOk_ints {K : PySem.W.Frag} {mg : Str → Option Value} {ro : Pl} {H : Hp} (lo c : Int) (n : Nat) : IterOk K mg ro H (intsI ((List.range n).map fun (k : Nat) => lo + k * c)) (Itc lo c n) := fun ro' H' M' R' P' _ => by
  refine ⟨by show n ≤ _; simp [intsI], fun i d hd => ⟨?_, fun y H'' hy => ?_⟩⟩
  · have := (List.getElem?_eq_some_iff.mp hd).1
    show i < n
    simpa [intsI] using this
  · obtain ⟨rfl, rfl⟩ := hy
    refine ⟨fun _ _ h => h, ?_⟩
    have hi := (List.getElem?_eq_some_iff.mp hd).1
    simp [intsI] at hi hd
    obtain ⟨w, hw, hd⟩ := hd
    rw [List.getElem?_range hi] at hw
    cases hw
    rw [← hd]
    rfl
theorem itr_itc (lo : Int) (n : Nat) : Itr lo n = Itc lo 1 n := by
  unfold Itr Itc
  simp
def rangeN (lo hi : Int) : List Int := (List.range (hi - lo).toNat).map fun (k : Nat) => lo + k * 1
def range1I (a : MA) : MI := fun sd M => (a sd M).bind fun ds M1 => match ds with
  | [.int j] => if -1000000000 ≤ j ∧ j ≤ 1000000000 then .ok (intsI (rangeN 0 j)) M1 else .stuck
  | _ => .stuck
def range2I (a : MA) : MI := fun sd M => (a sd M).bind fun ds M1 => match ds with
  | [.int i, .int j] => if -1000000000 ≤ i ∧ i ≤ 1000000000 ∧ -1000000000 ≤ j ∧ j ≤ 1000000000 then .ok (intsI (rangeN i j)) M1 else .stuck
  | _ => .stuck
/-- steps upward -/
def rangeC (lo hi c : Int) : List Int := (List.range (if lo < hi then ((hi - lo - 1) / c + 1).toNat else 0)).map fun (k : Nat) => lo + k * c
def range3I (a : MA) : MI := fun sd M => (a sd M).bind fun ds M1 => match ds with
  | [.int i, .int j, .int c] => if -1000000000 ≤ i ∧ i ≤ 1000000000 ∧ -1000000000 ≤ j ∧ j ≤ 1000000000 ∧ 0 < c ∧ c ≤ 1000000000 then .ok (intsI (rangeC i j c)) M1 else .stuck
  | _ => .stuck
theorem di_range1 {a : Expr} {p pos : Pos} {ma : MA} (hg : Gl X "range") (hm : X.mg "range" = none) (ha : DA X W [a] ma) (hs : starEach [a] X.env = [(false, eval a X.env)] := by rfl) : DI X W tg (.Call (.Name "range" p) [a] [] pos) (range1I ma) := by
  refine ⟨⟨fun pins s st H Q I q => (pi_range1 hg hm ha.pa hs).run pins s st H Q I ?_⟩⟩
  obtain ⟨ro, sd, M, R, S, P⟩ := q
  refine ⟨ro, sd, M, R, S, (Post.bind P).imp fun xs H1 ⟨ro1, M1, ds, R1, P1, r1, q1⟩ => ?_⟩
  split at q1
  · rename_i j
    obtain ⟨v, rfl, r⟩ := reps1 r1
    cases (show v = V.int j from r)
    split at q1
    · rename_i hj
      refine ⟨j, rfl, by omega, by omega, q1 ro1 H1 _ R1 (Pres.refl _ _) ?_⟩
      rw [itr_itc]
      have := iterOk_ints (K := X.K) (mg := X.mg) (ro := ro1) (H := H1) 0 1 (j - 0).toNat
      rw [Int.sub_zero] at this
      unfold rangeN
      rw [Int.sub_zero]
      exact this
    · exact q1.elim
  · exact q1.elim
theorem di_range2 {a b : Expr} {p pos : Pos} {ma : MA} (hg : Gl X "range") (hm : X.mg "range" = none) (ha : DA X W [a, b] ma) (hs : starEach [a, b] X.env = [(false, eval a X.env), (false, eval b X.env)] := by rfl) (hs2 : starEach [b] X.env = [(false, eval b X.env)] := by rfl) :
    DI X W tg (.Call (.Name "range" p) [a, b] [] pos) (range2I ma) := by
  refine ⟨⟨fun pins s st H Q I q => (pi_range2 hg hm ha.pa hs hs2).run pins s st H Q I ?_⟩⟩
  obtain ⟨ro, sd, M, R, S, P⟩ := q
  refine ⟨ro, sd, M, R, S, (Post.bind P).imp fun xs H1 ⟨ro1, M1, ds, R1, P1, r1, q1⟩ => ?_⟩
  split at q1
  · rename_i i j
    obtain ⟨v, w, rfl, r, r'⟩ := reps2 r1
    cases (show v = V.int i from r)
    cases (show w = V.int j from r')
    split at q1
    · rename_i hj
      refine ⟨i, j, rfl, ⟨by omega, by omega, by omega, by omega⟩, q1 ro1 H1 _ R1 (Pres.refl _ _) ?_⟩
      rw [itr_itc]
      exact iterOk_ints i 1 (j - i).toNat
    · exact q1.elim
  · exact q1.elim
theorem reps3 {K : PySem.W.Frag} {mg : Str → Option Value} {ro : Pl} {H : Hp} {d e f : D} {vs : List V} (h : Reps K mg ro H [d, e, f] vs) : ∃ v w x, vs = [v, w, x] ∧ Rep K mg ro H d v ∧ Rep K mg ro H e w ∧ Rep K mg ro H f x := by
  obtain ⟨v, r, rfl, q, t⟩ := h
  obtain ⟨w, x, rfl, q', q''⟩ := reps2 t
  exact ⟨v, w, x, rfl, q, q', q''⟩
theorem size_up {a b c : Int} (h : 0 < c) : Builtin.Range.rangeSize a b c = ((if a < b then ((b - a - 1) / c + 1).toNat else 0 : Nat) : Int) := by
  unfold Builtin.Range.rangeSize
  rw [if_pos h]
  by_cases hab : a < b
  · rw [if_pos hab, if_pos hab]
    have := Int.ediv_nonneg (a := b - a - 1) (b := c) (by omega) (by omega)
    omega
  · rw [if_neg hab, if_neg hab]; rfl
theorem small_up {a b c : Int} (h1 : -1000000000 ≤ a) (h2 : a ≤ 1000000000) (h3 : -1000000000 ≤ b) (h4 : b ≤ 1000000000) (h5 : 0 < c) (h6 : c ≤ 1000000000) : Builtin.Range.small a b c = true := by
  unfold Builtin.Range.small
  rw [size_up h5]
  have e1 : (b - a - 1) / c * c ≤ b - a - 1 := Int.ediv_mul_le _ (by omega)
  by_cases hab : a < b
  · have e2 := Int.ediv_nonneg (a := b - a - 1) (b := c) (by omega) (by omega)
    have e3 : (b - a - 1) / c ≤ b - a - 1 := by
      have : (b - a - 1) / c * 1 ≤ (b - a - 1) / c * c := Int.mul_le_mul_of_nonneg_left (by omega) e2
      omega
    generalize hq : (b - a - 1) / c = q at *
    simp only [Builtin.Range.rangeFitsLong, Bool.and_eq_true, Bool.or_eq_true, decide_eq_true_eq, beq_iff_eq, h5, if_true, hab]
    clear e1
    omega
  · simp only [Builtin.Range.rangeFitsLong, Bool.and_eq_true, Bool.or_eq_true, decide_eq_true_eq, beq_iff_eq, h5, if_true, hab, if_false]
    clear e1
    omega
theorem di_range3 {a b c : Expr} {p pos : Pos} {ma : MA} (hg : Gl X "range") (hm : X.mg "range" = none) (ha : DA X W [a, b, c] ma)
    (hs : starEach [a, b, c] X.env = (false, eval a X.env) :: starEach [b, c] X.env := by rfl) (hpl : (backTo pos (starEach [b, c] X.env)).any (·.1) = false := by rfl) : DI X W tg (.Call (.Name "range" p) [a, b, c] [] pos) (range3I ma) := by
  refine ⟨⟨fun pins s st H Q I q => (pi_range3 hg hm ha.pa hs hpl).run pins s st H Q I ?_⟩⟩
  obtain ⟨ro, sd, M, R, S, P⟩ := q
  refine ⟨ro, sd, M, R, S, (Post.bind P).imp fun xs H1 ⟨ro1, M1, ds, R1, P1, r1, q1⟩ => ?_⟩
  split at q1
  · rename_i i j c
    obtain ⟨v, w, x, rfl, r, r', r''⟩ := reps3 r1
    cases (show v = V.int i from r)
    cases (show w = V.int j from r')
    cases (show x = V.int c from r'')
    split at q1
    · rename_i hj
      refine ⟨i, j, c, (if i < j then ((j - i - 1) / c + 1).toNat else 0), rfl, ⟨by omega, by omega, ?_, ?_⟩, q1 ro1 H1 _ R1 (Pres.refl _ _) (iterOk_ints i c _)⟩
      · exact small_up (by omega) (by omega) (by omega) (by omega) (by omega) (by omega)
      · exact size_up hj.2.2.2.2.1
    · exact q1.elim
  · exact q1.elim
end

/-! ### comprehensions -/
def Res.ne {A : Type} : Res A → Res A
  | .ok a M => .ok a M
  | _ => .stuck
@[simp] theorem Res.ne_ok {A : Type} (a : A) (M : MS) : (Res.ok a M).ne = .ok a M := rfl
def yesB : MB := fun _ M => .ok true M
structure DTs (X : Cx) (W : WX) (ifs : List Expr) (m : MB) : Prop where
  pts : PTs X ifs (liftB X.K X.mg W m)
def wipeD (sd : SD) : List Nat → SD
  | [] => sd
  | v :: vs => (wipeD sd vs).set v none
open Classical in
noncomputable def lcGo (chk : MS → Prop) (g : MG) (tt : MB) (te : ME) (w : SD) : List D → List D → MS → Res (List D)
  | [], acc, M => if chk M then .ok acc M else .stuck
  | d :: r, acc, M => if chk M then (match g d w with
    | none => .stuck
    | some sd1 => (tt sd1 M).ne.bind fun b M1 => if b = true then (te sd1 M1).ne.bind fun y M2 => if acc.length < 1000000 then lcGo chk g tt te w r (acc ++ [y]) M2 else .stuck else lcGo chk g tt te w r acc M1) else .stuck
noncomputable def lcE (mi : MI) (g : MG) (tt : MB) (te : ME) (vs : List Nat) : ME := fun sd M => (mi sd M).bind fun it M1 => (lcGo it.chk g tt te (wipeD sd vs) it.ds [] M1).ne.bind fun ds M2 => .ok (.lst ds) M2
/-- the list will be changed -/
noncomputable def lcC (mi : MI) (g : MG) (tt : MB) (te : ME) (vs : List Nat) : ME := fun sd M => (mi sd M).bind fun it M1 => (lcGo it.chk g tt te (wipeD sd vs) it.ds [] M1).ne.bind fun ds M2 => .ok (.cell M2.length) (M2 ++ [.lst ds])

section
variable {K : PySem.W.Frag} {mg : Str → Option Value}
theorem RepSt.wipe {ro : Pl} {H : Hp} {sd : SD} {st : St} (h : RepSt K mg ro H sd st) : ∀ vs, RepSt K mg ro H (wipeD sd vs) (L2.wipe st vs)
  | [] => h
  | v :: vs => (RepSt.wipe h vs).unset
theorem Post.ne {A B : Type} {R : Pl → Hp → A → B → Prop} {E : XK} {ro : Pl} {H : Hp} {Q : B → Hp → Prop} {x : Res A} {A' B' : Type} {R' : Pl → Hp → A' → B' → Prop} {E' : XK} {Q' : B' → Hp → Prop} {k : A → MS → Res A'} (h : Post R' K mg E' ro H Q' (x.ne.bind k)) :
    Post R K mg E ro H (fun v H1 => ∃ ro1 M1 a, RelS K mg ro1 M1 H1 ∧ Pres ro H ro1 H1 ∧ R ro1 H1 a v ∧ Post R' K mg E' ro1 H1 Q' (k a M1)) x := by
  cases x with
  | ok a M => exact Post.bind (x := .ok a M) h
  | exc C ns ds M => exact h.elim
  | stuck => exact h.elim
/-- the places that are looked through, as they stand within a comprehension -/
structure Within (ro1 : Pl) (H1 : Hp) (p : Addr) (ro' : Pl) (H' : Hp) : Prop where
  hid : ro'.hid = p :: ro1.hid
  pre : ∃ t, ro'.ro = ro1.ro ++ t
  keep : ∀ a o, H1 a = some o → a ∉ ro1.ro → H' a = some o
  new : ∀ a, a ∈ ro'.ro → a ∈ ro1.ro ∨ H1 a = none
theorem Within.out {ro1 ro' : Pl} {H1 H' : Hp} {p : Addr} (w : Within ro1 H1 p ro' H') : Pres ro1 H1 ⟨ro'.ro, ro1.hid⟩ H' := ⟨w.pre, rfl, w.keep, w.new⟩
theorem Within.w {ro1 ro' : Pl} {H1 H' : Hp} {p : Addr} (w : Within ro1 H1 p ro' H') (hp : H1 p = none) : PresW ro1 H1 ro' H' := ⟨w.pre, fun a o h n => w.keep a o h (Pl.out_ro n), fun a h => by
  rcases List.mem_append.mp h with h | h
  · rcases w.new a h with z | z
    · exact .inl (List.mem_append_left _ z)
    · exact .inr z
  · rw [w.hid] at h
    rcases List.mem_cons.mp h with h | h
    · exact .inr (h ▸ hp)
    · exact .inl (List.mem_append_right _ h)⟩
theorem Within.step {ro1 ro' ro2 : Pl} {H1 H' H2 : Hp} {p : Addr} (w : Within ro1 H1 p ro' H') (q : Pres ro' H' ro2 H2) : Within ro1 H1 p ro2 H2 := by
  have t := Pres.trans (r0 := ro1) (H0 := H1) (r1 := ⟨ro'.ro, ro1.hid⟩) (H1 := H') (r2 := ⟨ro2.ro, ro1.hid⟩) (H2 := H2) w.out ⟨q.pre, rfl, q.keep, q.new⟩
  exact ⟨q.hid.trans w.hid, t.pre, t.keep, t.new⟩
theorem Within.put {ro1 ro' : Pl} {H1 H' : Hp} {p : Addr} {o : HO} (w : Within ro1 H1 p ro' H') (hp : H1 p = none) : Within ro1 H1 p ro' (upd H' p o) :=
  ⟨w.hid, w.pre, fun a u h hn => by rw [upd_ne (ne_of_none h hp)]; exact w.keep a u h hn, w.new⟩
theorem RelS.shown' {ro1 ro' : Pl} {p : Addr} {M : MS} {H : Hp} (R : RelS K mg ro' M H) (e : ro'.hid = p :: ro1.hid) : RelS K mg ⟨ro'.ro, ro1.hid⟩ M H :=
  ⟨R.len, R.nd, fun a ha => R.live a (by rw [e]; exact List.mem_cons_of_mem _ ha), fun a ha hb => R.dis a ha (by rw [e]; exact List.mem_cons_of_mem _ hb), fun i mo a e1 e2 => let ⟨ho, e3, m⟩ := R.at_ i mo a e1 e2; ⟨ho, e3, MRel.less (ro := ro') (ro' := ⟨ro'.ro, ro1.hid⟩) rfl (fun x (h : x ∈ ro1.hid) => by rw [e]; exact List.mem_cons_of_mem _ h) m⟩⟩
/-- a place that is there becomes a changeable one -/
theorem RelS.adopt {ro : Pl} {M : MS} {H : Hp} (R : RelS K mg ro M H) {p : Addr} {o : HO} {mo : MO} (hp : p ∉ ro.all) (ho : H p = some o) (m : MRel K mg (ro.add p) H mo o)
    (hr : ∀ (i : Nat) mo' a, M[i]? = some mo' → ro.ro[i]? = some a → ∀ ho, H a = some ho → MRel K mg ro H mo' ho → MRel K mg (ro.add p) H mo' ho) : RelS K mg (ro.add p) (M ++ [mo]) H := by
  refine ⟨by simp [R.len], ?_, R.live, fun a ha => ?_, fun i mo' a e1 e2 => ?_⟩
  · rw [List.nodup_append]
    refine ⟨R.nd, by simp, fun a ha b hb => ?_⟩
    have : b = p := by simpa using hb
    rw [this]
    exact fun e => hp (List.mem_append_left _ (e ▸ ha))
  · rcases List.mem_append.mp ha with h | h
    · exact R.dis a h
    · have : a = p := by simpa using h
      subst this
      exact fun z => hp (List.mem_append_right _ z)
  · by_cases hi : i < M.length
    · rw [List.getElem?_append_left hi] at e1
      rw [List.getElem?_append_left (by rw [R.len]; exact hi)] at e2
      obtain ⟨u, e, m'⟩ := R.at_ i mo' a e1 e2
      exact ⟨u, e, hr i mo' a e1 e2 u e m'⟩
    · have hi' : i = M.length := by
        have := (List.getElem?_eq_some_iff.mp e1).1
        simp at this; omega
      subst hi'
      rw [List.getElem?_append_right (Nat.le_refl _)] at e1
      simp at e1; subst e1
      rw [← R.len, List.getElem?_append_right (Nat.le_refl _)] at e2
      simp at e2; subst e2
      exact ⟨o, ho, m⟩
theorem Pl.unh {ro ro' : Pl} {p a : Addr} (e : ro'.ro = ro.ro ++ [p]) (h : p ∈ ro.hid) (h2 : ∀ a, a ∈ ro'.hid → a ∈ ro.hid) (n : a ∉ ro.all) : a ∉ ro'.all := fun m => by
  rcases List.mem_append.mp m with m | m
  · rw [e] at m
    rcases List.mem_append.mp m with m | m
    · exact n (List.mem_append_left _ m)
    · have : a = p := by simpa using m
      exact n (List.mem_append_right _ (this ▸ h))
  · exact n (List.mem_append_right _ (h2 a m))
mutual
theorem Rep.unhide {ro ro' : Pl} {H : Hp} {p : Addr} (e : ro'.ro = ro.ro ++ [p]) (h : p ∈ ro.hid) (h2 : ∀ a, a ∈ ro'.hid → a ∈ ro.hid) : ∀ (d : D) (v : V), Rep K mg ro H d v → Rep K mg ro' H d v
  | .non, v, q => q
  | .bl b, v, q => q
  | .int i, v, q => q
  | .str x, v, q => q
  | .tup ds, v, ⟨a, vs, e1, q, r⟩ => ⟨a, vs, e1, q.imp (fun ⟨z, n⟩ => ⟨z, Pl.unh e h h2 n⟩) id, Reps.unhide e h h2 ds vs r⟩
  | .lst ds, v, ⟨a, vs, e1, q, n, r⟩ => ⟨a, vs, e1, q, Pl.unh e h h2 n, Reps.unhide e h h2 ds vs r⟩
  | .flst ds, v, ⟨a, vs, e1, q, r⟩ => ⟨a, vs, e1, q.imp (fun ⟨z, n⟩ => ⟨z, Pl.unh e h h2 n⟩) id, Reps.unhide e h h2 ds vs r⟩
  | .obj C ns ds, v, ⟨a, c, dx, vs, e1, g, q, n, l, r⟩ => ⟨a, c, dx, vs, e1, g, q, Pl.unh e h h2 n, l, Reps.unhide e h h2 ds vs r⟩
  | .dic ks ds, v, ⟨a, kl, vs, e1, g, l, q, n, r⟩ => ⟨a, kl, vs, e1, g, l, q, Pl.unh e h h2 n, Reps.unhide e h h2 ds vs r⟩
  | .glo x, v, q => q
  | .ty n, v, q => q
  | .exn C ns ds x d, v, ⟨a, vs, e1, q, n, l, r⟩ => ⟨a, vs, e1, q, Pl.unh e h h2 n, l, Reps.unhide e h h2 ds vs r⟩
  | .cell n, v, ⟨a, e1, g⟩ => ⟨a, e1, by rw [e, List.getElem?_append_left (List.getElem?_eq_some_iff.mp g).1]; exact g⟩
theorem Reps.unhide {ro ro' : Pl} {H : Hp} {p : Addr} (e : ro'.ro = ro.ro ++ [p]) (h : p ∈ ro.hid) (h2 : ∀ a, a ∈ ro'.hid → a ∈ ro.hid) : ∀ (ds : List D) (vs : List V), Reps K mg ro H ds vs → Reps K mg ro' H ds vs
  | [], vs, q => q
  | d :: ds, vs, ⟨v, r, e1, q, t⟩ => ⟨v, r, e1, Rep.unhide e h h2 d v q, Reps.unhide e h h2 ds r t⟩
end
end

section
variable {X : Cx} {W : WX}
theorem dts_nil : DTs X W [] yesB := by
  refine ⟨⟨fun pins s st H Q I q => pts_nil.run pins s st H Q I ?_⟩⟩
  obtain ⟨ro, sd, M, R, S, P⟩ := q
  exact P ro H true R (Pres.refl _ _) rfl
theorem dts_one {c : Expr} {t : MB} (h : DT X W c t) : DTs X W [c] t := ⟨pts_one h.pt⟩
/-- one run of the block, from the heap H1 on -/
theorem lc_turns {K : PySem.W.Frag} {mg : Str → Option Value} {it : ItD} {J : It} {ro1 : Pl} {H1 : Hp} {M1 : MS} {sd : SD} {st : St} {g : MG} {ix vs : List Nat} {tt : MB} {te : ME} {Q : VK} (hix : ∀ i, i ∈ ix → i ∈ vs)
    (R1 : RelS K mg ro1 M1 H1) (S1 : RepSt K mg ro1 H1 sd st) (J1 : IterOk K mg ro1 H1 it J) {p : Addr} (hp : H1 p = none)
    (fin : ∃ ds M2, lcGo it.chk g tt te (wipeD sd vs) it.ds [] M1 = .ok ds M2 ∧ ∀ ro' H' us, RelS K mg ro' M2 H' → Within ro1 H1 p ro' H' → H' p = some (.lst us) → Reps K mg ro' H' ds us → Q (.ref p) H') :
    ∃ Wv : Nat → Nat → Hp → Prop, (∃ m, Wv 0 m (upd H1 p (.lst []))) ∧ ∀ i m H, Wv i m H →
      (J.stop i H ∧ Q (.ref p) H) ∨ (J.go i H ∧ ∃ Nx : Hp → Prop, (∀ H', Nx H' → ∃ m', m' < m ∧ Wv (i + 1) m' H') ∧ ∀ x H', J.yld i H x H' → liftG K mg g ix x (wipe st vs) H' fun s2 H2 => wipe s2 vs = wipe st vs ∧ liftB K mg W0 tt s2 H2 fun b H3 =>
        if b = true then liftE K mg W0 te s2 H3 fun y H4 => ∃ acc, H4 p = some (.lst acc) ∧ acc.length < sizeLine ∧ Nx (upd H4 p (.lst (acc ++ [y]))) else Nx H3) := by
  obtain ⟨ds, M2, hrun, fin⟩ := fin
  refine ⟨fun i m H' => m = it.ds.length - i ∧ i ≤ it.ds.length ∧ ∃ ro' M' acc us, RelS K mg ro' M' H' ∧ Within ro1 H1 p ro' H' ∧ H' p = some (.lst us) ∧ Reps K mg ro' H' acc us ∧ lcGo it.chk g tt te (wipeD sd vs) (it.ds.drop i) acc M' = .ok ds M2,
    ⟨_, rfl, Nat.zero_le _, ro1.hide p, M1, [], [], R1.hide hp, ⟨rfl, ⟨[], by simp⟩, fun a o h _ => upd_grow hp a o h, fun a h => .inl h⟩, upd_same, rfl, hrun⟩, ?_⟩
  rintro i m H' ⟨rfl, hle, ro', M', acc, us, R', Wi, hpl, ra, hr⟩
  have mem : p ∈ ro'.hid := by rw [Wi.hid]; exact List.mem_cons_self
  by_cases hlt : i < it.ds.length
  · have hd : it.ds.drop i = it.ds[i] :: it.ds.drop (i + 1) := List.drop_eq_getElem_cons hlt
    rw [hd] at hr
    unfold lcGo at hr
    by_cases hc : it.chk M'
    · rw [if_pos hc] at hr
      obtain ⟨_, hJ⟩ := J1 ro' H' M' R' (Wi.w hp) hc
      obtain ⟨hgo, hy⟩ := hJ i _ (List.getElem?_eq_getElem hlt)
      refine .inr ⟨hgo, fun H2 => ∃ ro2 M3 acc us, RelS K mg ro2 M3 H2 ∧ Within ro1 H1 p ro2 H2 ∧ H2 p = some (.lst us) ∧ Reps K mg ro2 H2 acc us ∧ lcGo it.chk g tt te (wipeD sd vs) (it.ds.drop (i + 1)) acc M3 = .ok ds M2,
        fun H2 ⟨ro2, M3, acc, us, a, b, c, d, e⟩ => ⟨it.ds.length - (i + 1), by omega, rfl, hlt, ro2, M3, acc, us, a, b, c, d, e⟩, fun x H'' y => ?_⟩
      obtain ⟨hgrow, hrep⟩ := hy x H'' y
      obtain ⟨R'', P''⟩ := R'.grow hgrow
      cases hgd : g it.ds[i] (wipeD sd vs) with
      | none => rw [hgd] at hr; cases hr
      | some sd1 =>
        rw [hgd] at hr
        dsimp only at hr
        have S'' : RepSt K mg ro' H'' (wipeD sd vs) (wipe st vs) := ((S1.monoW (Wi.w hp)).mono P'').wipe vs
        refine ⟨ro', wipeD sd vs, M', _, R'', S'', hrep, sd1, hgd, fun st1 Sd1 hw => ⟨by rw [hw vs hix]; exact (List.ext_getElem? fun j => by rw [wipe_get, wipe_get, wipe_length]; split <;> rfl), ?_⟩⟩
        refine ⟨ro', sd1, M', R'', Sd1, ?_⟩
        cases ht : tt sd1 M' with
        | exc C ns ds M3 => rw [ht] at hr; cases hr
        | stuck => rw [ht] at hr; cases hr
        | ok b M3 =>
          rw [ht, Res.ne_ok, Res.bind_ok] at hr
          rintro ro3 H3 b' R3 P3 rfl
          have W3 := (Wi.step P'').step P3
          have ra3 := Reps.mono P3 _ _ (Reps.mono P'' _ _ ra)
          have hp3 : H3 p = some (.lst us) := P3.keep p _ (P''.keep p _ hpl fun z => R'.dis p z mem) fun z => R''.dis p z mem
          cases b' with
          | false =>
            rw [if_neg Bool.false_ne_true] at hr ⊢
            exact ⟨ro3, M3, acc, us, R3, W3, hp3, ra3, hr⟩
          | true =>
            rw [if_pos rfl] at hr ⊢
            refine ⟨ro3, sd1, M3, R3, Sd1.mono P3, ?_⟩
            cases hte : te sd1 M3 with
            | exc C ns ds M4 => rw [hte] at hr; cases hr
            | stuck => rw [hte] at hr; cases hr
            | ok y M4 =>
              rw [hte, Res.ne_ok, Res.bind_ok] at hr
              intro ro4 H4 yv R4 P4 ry
              split at hr
              · rename_i hl
                have mem4 : p ∈ ro4.hid := by rw [P4.hid, P3.hid]; exact mem
                have hp4 : H4 p = some (.lst us) := P4.keep p _ hp3 fun z => R3.dis p z (by rw [P3.hid]; exact mem)
                have ra4 := Reps.mono P4 _ _ ra3
                refine ⟨us, hp4, by rw [← ra4.len]; exact line_lt hl, ro4, M4, acc ++ [y], us ++ [yv], R4.unseen mem4, (W3.step P4).put hp, upd_same, ?_, hr⟩
                exact Reps.unseen mem4 _ _ (ra4.append (Reps.one ry))
              · cases hr
    · rw [if_neg hc] at hr; cases hr
  · have e : i = it.ds.length := by omega
    subst e
    rw [List.drop_length] at hr
    unfold lcGo at hr
    by_cases hc : it.chk M'
    · rw [if_pos hc] at hr
      cases hr
      exact .inl ⟨(J1 ro' H' _ R' (Wi.w hp) hc).1, fin ro' H' us R' Wi hpl ra⟩
    · rw [if_neg hc] at hr; cases hr
section
variable {elt tg iter : Expr} {ifs : List Expr} {scope : Scope} {own : List (Str × Nat)} {pos spos : Pos} {mi : MI} {g : MG} {ix : List Nat} {tt : MB} {te : ME}
theorem lc_tree {st : St} {H : Hp} {Q : VK} {vs : List Nat} (hix : ∀ i, i ∈ ix → i ∈ vs) (q : liftE X.K X.mg W (lcE mi g tt te vs) st H Q) : tLc (liftI X.K X.mg W mi) (liftG X.K X.mg g ix) (liftB X.K X.mg W0 tt) (liftE X.K X.mg W0 te) vs st H Q := by
  obtain ⟨ro, sd, M, R, S, P⟩ := q
  refine ⟨ro, sd, M, R, S, (Post.bind P).imp fun J H1 ⟨ro1, M1, it, R1, P1, J1, q1⟩ => fun p hp => ?_⟩
  refine lc_turns hix R1 (S.mono P1) J1 hp ?_
  cases hrun : lcGo it.chk g tt te (wipeD sd vs) it.ds [] M1 with
  | stuck => rw [hrun] at q1; exact q1.elim
  | exc C ns ds M2 => rw [hrun] at q1; exact q1.elim
  | ok ds M2 =>
    rw [hrun, Res.ne_ok, Res.bind_ok] at q1
    refine ⟨ds, M2, rfl, fun ro' H' us R' Wi hpl ra => ?_⟩
    have mem : p ∈ ro'.hid := by rw [Wi.hid]; exact List.mem_cons_self
    refine q1 _ H' (.ref p) (R'.shown' Wi.hid) Wi.out ⟨p, us, rfl, hpl, fun m => ?_, Reps.less (ro := ro') (ro' := ⟨ro'.ro, ro1.hid⟩) rfl (fun x (h : x ∈ ro1.hid) => by rw [Wi.hid]; exact List.mem_cons_of_mem _ h) _ _ ra⟩
    rcases List.mem_append.mp m with m | m
    · exact R'.dis p m mem
    · exact R1.liveN p m hp
theorem lc_cell {st : St} {H : Hp} {Q : VK} {vs : List Nat} (hix : ∀ i, i ∈ ix → i ∈ vs) (q : liftE X.K X.mg W (lcC mi g tt te vs) st H Q) : tLc (liftI X.K X.mg W mi) (liftG X.K X.mg g ix) (liftB X.K X.mg W0 tt) (liftE X.K X.mg W0 te) vs st H Q := by
  obtain ⟨ro, sd, M, R, S, P⟩ := q
  refine ⟨ro, sd, M, R, S, (Post.bind P).imp fun J H1 ⟨ro1, M1, it, R1, P1, J1, q1⟩ => fun p hp => ?_⟩
  refine lc_turns hix R1 (S.mono P1) J1 hp ?_
  cases hrun : lcGo it.chk g tt te (wipeD sd vs) it.ds [] M1 with
  | stuck => rw [hrun] at q1; exact q1.elim
  | exc C ns ds M2 => rw [hrun] at q1; exact q1.elim
  | ok ds M2 =>
    rw [hrun, Res.ne_ok, Res.bind_ok] at q1
    refine ⟨ds, M2, rfl, fun ro' H' us R' Wi hpl ra => ?_⟩
    have mem : p ∈ ro'.hid := by rw [Wi.hid]; exact List.mem_cons_self
    have hout : p ∉ (⟨ro'.ro, ro1.hid⟩ : Pl).all := fun m => by
      rcases List.mem_append.mp m with m | m
      · exact R'.dis p m mem
      · exact R1.liveN p m hp
    have h2 : ∀ a, a ∈ ro1.hid → a ∈ ro'.hid := fun x h => by rw [Wi.hid]; exact List.mem_cons_of_mem _ h
    have Rs := R'.shown' Wi.hid
    have up : RelS X.K X.mg (Pl.add ⟨ro'.ro, ro1.hid⟩ p) (M2 ++ [.lst ds]) H' := by
      refine Rs.adopt hout hpl ⟨us, rfl, Reps.unhide (ro := ro') (ro' := ⟨ro'.ro ++ [p], ro1.hid⟩) (p := p) rfl mem h2 _ _ ra⟩ fun i mo a e1 e2 ho e3 _ => ?_
      obtain ⟨ho', e4, m'⟩ := R'.at_ i mo a e1 e2
      rw [e3] at e4; cases e4
      cases mo with
      | lst es => obtain ⟨vs', e, r⟩ := m'; exact ⟨vs', e, Reps.unhide (ro := ro') (ro' := ⟨ro'.ro ++ [p], ro1.hid⟩) (p := p) rfl mem h2 _ _ r⟩
      | obj C ns es => obtain ⟨c, dx, vs', e, gg, l, r⟩ := m'; exact ⟨c, dx, vs', e, gg, l, Reps.unhide (ro := ro') (ro' := ⟨ro'.ro ++ [p], ro1.hid⟩) (p := p) rfl mem h2 _ _ r⟩
      | dic ks es => obtain ⟨kl, vs', e, gg, l, r⟩ := m'; exact ⟨kl, vs', e, gg, l, Reps.unhide (ro := ro') (ro' := ⟨ro'.ro ++ [p], ro1.hid⟩) (p := p) rfl mem h2 _ _ r⟩
      | tab j C m => obtain ⟨ps, P, e, t, gg, k⟩ := m'; exact ⟨ps, P, e, ⟨t.1, fun ps cv hc => let ⟨c, e1, e2, e3⟩ := t.2 ps cv hc; ⟨c, e1, e2, Pl.unh (ro := ro') (ro' := ⟨ro'.ro ++ [p], ro1.hid⟩) (p := p) rfl mem h2 e3⟩⟩, by show (ro'.ro ++ [p])[j]? = _; rw [List.getElem?_append_left (List.getElem?_eq_some_iff.mp gg).1]; exact gg, k⟩
    refine q1 _ H' (.ref p) up ⟨?_, rfl, Wi.keep, fun a h => ?_⟩ ⟨p, rfl, ?_⟩
    · obtain ⟨t, e⟩ := Wi.pre
      exact ⟨t ++ [p], by show ro'.ro ++ [p] = _; rw [e, List.append_assoc]⟩
    · rcases List.mem_append.mp h with h | h
      · exact Wi.new a h
      · have : a = p := by simpa using h
        exact .inr (this ▸ hp)
    · show (ro'.ro ++ [p])[M2.length]? = some p
      rw [← R'.len, List.getElem?_append_right (Nat.le_refl _)]; simp
variable (hc : X.calm = true) (hN : X.N.Nodup) (hi : DI X W tg iter mi) (ok : BlkOk X.N X.env.scope scope own) (hix : ∀ i, i ∈ ix → i ∈ own.map (·.2))
    (hg : ∀ (s : Shared) (H : Hp) (C : Addr) (cl : List (Str × Addr)) (fp : List Addr), DG (X.blk s H scope (compEnvC scope cl C X.env) fp) tg g ix) (ht : ∀ (s : Shared) (H : Hp) (C : Addr) (cl : List (Str × Addr)) (fp : List Addr), DTs (X.blk s H scope (compEnvC scope cl C X.env) fp) W0 ifs tt)
    (he : ∀ (s : Shared) (H : Hp) (C : Addr) (cl : List (Str × Addr)) (fp : List Addr), DE (X.blk s H scope (compEnvC scope cl C X.env) fp) W0 elt te)
include hc hN hi ok hix hg ht he
theorem de_lc (hs : ∀ x, foldedSetIterable iter X.env x = pure x := by intro _; rfl) : DE X W (.ListComp elt [⟨tg, iter, ifs, 0⟩] scope pos) (lcE mi g tt te (own.map (·.2))) :=
  ⟨⟨fun pins s st H Q I q => (pe_lc hc hN hi.pi ok (fun a b c d e => (hg a b c d e).pg) (fun a b c d e => (ht a b c d e).pts) (fun a b c d e => (he a b c d e).pe) hs).run pins s st H Q I (lc_tree hix q)⟩⟩
theorem de_lcC (hs : ∀ x, foldedSetIterable iter X.env x = pure x := by intro _; rfl) : DE X W (.ListComp elt [⟨tg, iter, ifs, 0⟩] scope pos) (lcC mi g tt te (own.map (·.2))) :=
  ⟨⟨fun pins s st H Q I q => (pe_lc hc hN hi.pi ok (fun a b c d e => (hg a b c d e).pg) (fun a b c d e => (ht a b c d e).pts) (fun a b c d e => (he a b c d e).pe) hs).run pins s st H Q I (lc_cell hix q)⟩⟩
theorem setLc_end {i : Nat} {m : ME} {D0 : Ends} {st : St} {H : Hp} {vs : List Nat} (hl : ∀ Q, liftE X.K X.mg W m st H Q → tLc (liftI X.K X.mg W mi) (liftG X.K X.mg g ix) (liftB X.K X.mg W0 tt) (liftE X.K X.mg W0 te) vs st H Q)
    (q : liftS X.K X.mg W (setS i m) D0 st H) : tAsg (tLc (liftI X.K X.mg W mi) (liftG X.K X.mg g ix) (liftB X.K X.mg W0 tt) (liftE X.K X.mg W0 te) vs) (gName i) D0 st H := by
  obtain ⟨ro, sd, M, R, S, P⟩ := q
  refine hl _ ⟨ro, sd, M, R, S, (PostS.ofE P S).imp fun x H1 ⟨ro1, M1, d, R1, P1, r1, q1⟩ => ?_⟩
  exact q1 ro1 H1 _ R1 (Pres.refl _ _) ((S.mono P1).set r1)
theorem ds_setLc {i : Nat} {y : Str} {py : Pos} (hy : X.N[i]? = some y) (hyl : X.env.scope.names.lookup y = some .local) (hsw : swapsWith (.ListComp elt [⟨tg, iter, ifs, 0⟩] scope pos) (some (.Name y py)) spos.line X.env = pure true)
    (hs : ∀ x, foldedSetIterable iter X.env x = pure x := by intro _; rfl) : DS X W (.Assign [.Name y py] (.ListComp elt [⟨tg, iter, ifs, 0⟩] scope pos) spos) (setS i (lcE mi g tt te (own.map (·.2)))) :=
  ⟨⟨fun pins s st H D0 I q => (ps_setLc hc hN hy hyl hsw hi.pi ok (fun a b c d e => (hg a b c d e).pg) (fun a b c d e => (ht a b c d e).pts) (fun a b c d e => (he a b c d e).pe) hs).run pins s st H D0 I
    (setLc_end hc hN hi ok hix hg ht he (fun _ => lc_tree hix) q)⟩⟩
theorem ds_setLcC {i : Nat} {y : Str} {py : Pos} (hy : X.N[i]? = some y) (hyl : X.env.scope.names.lookup y = some .local) (hsw : swapsWith (.ListComp elt [⟨tg, iter, ifs, 0⟩] scope pos) (some (.Name y py)) spos.line X.env = pure true)
    (hs : ∀ x, foldedSetIterable iter X.env x = pure x := by intro _; rfl) : DS X W (.Assign [.Name y py] (.ListComp elt [⟨tg, iter, ifs, 0⟩] scope pos) spos) (setS i (lcC mi g tt te (own.map (·.2)))) :=
  ⟨⟨fun pins s st H D0 I q => (ps_setLc hc hN hy hyl hsw hi.pi ok (fun a b c d e => (hg a b c d e).pg) (fun a b c d e => (ht a b c d e).pts) (fun a b c d e => (he a b c d e).pe) hs).run pins s st H D0 I
    (setLc_end hc hN hi ok hix hg ht he (fun _ => lc_cell hix) q)⟩⟩
end
end
end DL

/-! DL: calls of the text's own defs, instances. -/
namespace DL
open PySem PySem.Spec L2
open PyProof.Rows hiding St

theorem ofString_inj {s t : String} (h : Str.ofString s = Str.ofString t) : s = t := by
  rw [Str.ofString_eq_toList, Str.ofString_eq_toList] at h
  have h1 : s.toList.map Char.toNat = t.toList.map Char.toNat := by
    have := congrArg (fun z : Str => z.cps.toList) h
    simpa using this
  have h2 : s.toList = t.toList := List.map_inj_right (fun a b e => Char.ext (UInt32.toNat_inj.mp e)) |>.mp h1
  exact String.toList_inj.mp h2
def lookF : List String → List D → String → Option D
  | n :: ns, d :: ds, f => if f = n then some d else lookF ns ds f
  | _, _, _ => none
def putN : List String → List D → String → D → List String × List D
  | n :: ns, d :: ds, f, e => if n = f then (n :: ns, e :: ds) else ((n :: (putN ns ds f e).1), (d :: (putN ns ds f e).2))
  | _, _, f, e => ([f], [e])
section
variable {K : PySem.W.Frag} {mg : Str → Option Value} {ro : Pl} {H : Hp}
theorem lookF_some : ∀ {ns : List String} {ds : List D} {vs : List V} {f : String} {d : D}, Reps K mg ro H ds vs → lookF ns ds f = some d → ∃ v, (zipF ns vs).lookup (Str.ofString f) = some v ∧ Rep K mg ro H d v
  | [], ds, vs, f, d, r, e => by cases ds <;> cases e
  | n :: ns, [], vs, f, d, r, e => by cases e
  | n :: ns, x :: ds, vs, f, d, ⟨v, rs, ev, q, t⟩, e => by
    subst ev
    show ∃ w, List.lookup (Str.ofString f) ((Str.ofString n, v) :: zipF ns rs) = some w ∧ _
    unfold lookF at e
    split at e
    · rename_i h
      cases e
      subst h
      exact ⟨v, by simp [List.lookup], q⟩
    · rename_i h
      have hb : (Str.ofString f == Str.ofString n) = false := beq_eq_false_iff_ne.mpr fun z => h (ofString_inj z)
      obtain ⟨w, hw, rw'⟩ := lookF_some t e
      exact ⟨w, by simp only [List.lookup, hb]; exact hw, rw'⟩
theorem lookF_none : ∀ {ns : List String} {vs : List V} {f : String}, ns.contains f = false → (zipF ns vs).lookup (Str.ofString f) = none
  | [], vs, f, _ => rfl
  | n :: ns, [], f, _ => rfl
  | n :: ns, v :: vs, f, h => by
    simp only [List.contains_cons, Bool.or_eq_false_iff] at h
    show List.lookup (Str.ofString f) ((Str.ofString n, v) :: zipF ns vs) = none
    have hb : (Str.ofString f == Str.ofString n) = false := beq_eq_false_iff_ne.mpr fun z => (beq_eq_false_iff_ne.mp h.1) (ofString_inj z)
    simp only [List.lookup, hb]
    exact lookF_none h.2
theorem putN_reps : ∀ {ns : List String} {ds : List D} {vs : List V} {f : String} {e : D} {u : V}, Reps K mg ro H ds vs → ns.length = ds.length → Rep K mg ro H e u →
    ∃ ws, putF (Str.ofString f) u (zipF ns vs) = zipF (putN ns ds f e).1 ws ∧ Reps K mg ro H (putN ns ds f e).2 ws ∧ (putN ns ds f e).1.length = ws.length
  | [], [], vs, f, e, u, r, _, q => by
    cases (show vs = [] from r)
    exact ⟨[u], rfl, Reps.one q, rfl⟩
  | n :: ns, d :: ds, vs, f, e, u, ⟨v, rs, ev, qd, t⟩, hl, q => by
    subst ev
    show ∃ ws, (if Str.ofString n = Str.ofString f then (Str.ofString n, u) :: zipF ns rs else (Str.ofString n, v) :: putF (Str.ofString f) u (zipF ns rs)) = _ ∧ _
    have hl' : ns.length = ds.length := by simpa using hl
    unfold putN
    by_cases h : n = f
    · rw [if_pos (congrArg Str.ofString h), if_pos h]
      exact ⟨u :: rs, rfl, ⟨u, rs, rfl, q, t⟩, by simp [hl', t.len]⟩
    · rw [if_neg (fun z => h (ofString_inj z)), if_neg h]
      obtain ⟨ws, e1, e2, e3⟩ := putN_reps (f := f) t hl' q
      exact ⟨v :: ws, by rw [e1]; rfl, ⟨v, ws, rfl, qd, e2⟩, by simp [e3]⟩
theorem length_zipF {ns : List String} {vs : List V} (h : ns.length = vs.length) : (zipF ns vs).length = ns.length := by
  unfold zipF
  rw [List.length_zip, List.length_map]; omega
end

/-! ### what no new changeable place is in -/
mutual
def nc (n : Nat) : D → Bool
  | .tup ds => ncs n ds
  | .lst ds => ncs n ds
  | .flst ds => ncs n ds
  | .obj _ _ ds => ncs n ds
  | .dic _ ds => ncs n ds
  | .exn _ _ ds _ _ => ncs n ds
  | .cell k => decide (k < n)
  | _ => true
def ncs (n : Nat) : List D → Bool
  | [] => true
  | d :: ds => nc n d && ncs n ds
end
def ncM (n : Nat) : MO → Bool
  | .lst ds => ncs n ds
  | .obj _ _ ds => ncs n ds
  | .dic _ ds => ncs n ds
  | .tab i _ _ => decide (i < n)
mutual
/-- new changeable places are written out as what they are in the end -/
def clo (n : Nat) (M : MS) : D → Option D
  | .tup ds => (clos n M ds).map D.tup
  | .lst ds => (clos n M ds).map D.lst
  | .flst ds => (clos n M ds).map D.flst
  | .obj C ns ds => (clos n M ds).map (D.obj C ns)
  | .dic ks ds => (clos n M ds).map (D.dic ks)
  | .exn C ns ds x d => (clos n M ds).map fun es => D.exn C ns es x d
  | .cell k => if k < n then some (.cell k) else match M[k]? with
    | some (.lst ds) => if ncs n ds = true then some (.lst ds) else none
    | some (.obj C ns ds) => if ncs n ds = true then some (.obj C ns ds) else none
    | some (.dic ks ds) => if ncs n ds = true then some (.dic ks ds) else none
    | some (.tab ..) => none
    | none => none
  | d => some d
def clos (n : Nat) (M : MS) : List D → Option (List D)
  | [] => some []
  | d :: ds => match clo n M d, clos n M ds with
    | some e, some es => some (e :: es)
    | _, _ => none
end
open Classical in
noncomputable def closeR (M : MS) (x : Res D) : Res D := match x with
  | .ok d M' => if M'.take M.length = M ∨ (M'.take M.length).all (ncM M.length) = true then (match clo M.length M' d with
    | some e => .ok e (M'.take M.length)
    | none => .stuck) else .stuck
  | .exc C ns ds M' => if M'.take M.length = M ∨ (M'.take M.length).all (ncM M.length) = true then (match clos M.length M' ds with
    | some es => .exc C ns es (M'.take M.length)
    | none => .stuck) else .stuck
  | .stuck => .stuck
section
variable {K : PySem.W.Frag} {mg : Str → Option Value} {ro ro' : Pl} {H : Hp}
mutual
theorem Rep.nc : ∀ (d : D) (v : V), Rep K mg ro H d v → nc ro.ro.length d = true
  | .non, v, q => rfl
  | .bl b, v, q => rfl
  | .int i, v, q => rfl
  | .str x, v, q => rfl
  | .tup ds, v, ⟨a, vs, e1, q, r⟩ => Reps.nc ds vs r
  | .lst ds, v, ⟨a, vs, e1, q, n, r⟩ => Reps.nc ds vs r
  | .flst ds, v, ⟨a, vs, e1, q, r⟩ => Reps.nc ds vs r
  | .obj C ns ds, v, ⟨a, c, dx, vs, e1, g, q, n, l, r⟩ => Reps.nc ds vs r
  | .dic ks ds, v, ⟨a, kl, vs, e1, g, l, q, n, r⟩ => Reps.nc ds vs r
  | .glo x, v, q => rfl
  | .ty n, v, q => rfl
  | .exn C ns ds x d, v, ⟨a, vs, e1, q, n, l, r⟩ => Reps.nc ds vs r
  | .cell n, v, ⟨a, e1, g⟩ => decide_eq_true (List.getElem?_eq_some_iff.mp g).1
theorem Reps.nc : ∀ (ds : List D) (vs : List V), Reps K mg ro H ds vs → ncs ro.ro.length ds = true
  | [], vs, q => rfl
  | d :: ds, vs, ⟨v, r, e1, q, t⟩ => by
    show (DL.nc _ d && ncs _ ds) = true
    rw [Rep.nc d v q, Reps.nc ds r t]; rfl
end
theorem Pl.sub {a : Addr} (h : ∃ t, ro'.ro = ro.ro ++ t) (hh : ro'.hid = ro.hid) (n : a ∉ ro'.all) : a ∉ ro.all := fun m => by
  obtain ⟨t, e⟩ := h
  rcases List.mem_append.mp m with m | m
  · exact n (List.mem_append_left _ (by rw [e]; exact List.mem_append_left _ m))
  · exact n (List.mem_append_right _ (by rw [hh]; exact m))
mutual
theorem Rep.shrink (h : ∃ t, ro'.ro = ro.ro ++ t) (hh : ro'.hid = ro.hid) : ∀ (d : D) (v : V), nc ro.ro.length d = true → Rep K mg ro' H d v → Rep K mg ro H d v
  | .non, v, _, q => q
  | .bl b, v, _, q => q
  | .int i, v, _, q => q
  | .str x, v, _, q => q
  | .tup ds, v, c, ⟨a, vs, e1, q, r⟩ => ⟨a, vs, e1, q.imp (fun ⟨z, n⟩ => ⟨z, Pl.sub h hh n⟩) id, Reps.shrink h hh ds vs c r⟩
  | .lst ds, v, c, ⟨a, vs, e1, q, n, r⟩ => ⟨a, vs, e1, q, Pl.sub h hh n, Reps.shrink h hh ds vs c r⟩
  | .flst ds, v, c, ⟨a, vs, e1, q, r⟩ => ⟨a, vs, e1, q.imp (fun ⟨z, n⟩ => ⟨z, Pl.sub h hh n⟩) id, Reps.shrink h hh ds vs c r⟩
  | .obj C ns ds, v, k, ⟨a, c, dx, vs, e1, g, q, n, l, r⟩ => ⟨a, c, dx, vs, e1, g, q, Pl.sub h hh n, l, Reps.shrink h hh ds vs k r⟩
  | .dic ks ds, v, c, ⟨a, kl, vs, e1, g, l, q, n, r⟩ => ⟨a, kl, vs, e1, g, l, q, Pl.sub h hh n, Reps.shrink h hh ds vs c r⟩
  | .glo x, v, _, q => q
  | .ty n, v, _, q => q
  | .exn C ns ds x d, v, c, ⟨a, vs, e1, q, n, l, r⟩ => ⟨a, vs, e1, q, Pl.sub h hh n, l, Reps.shrink h hh ds vs c r⟩
  | .cell n, v, c, ⟨a, e1, g⟩ => ⟨a, e1, by
      obtain ⟨t, e⟩ := h
      have hn : n < ro.ro.length := of_decide_eq_true c
      rw [e, List.getElem?_append_left hn] at g
      exact g⟩
theorem Reps.shrink (h : ∃ t, ro'.ro = ro.ro ++ t) (hh : ro'.hid = ro.hid) : ∀ (ds : List D) (vs : List V), ncs ro.ro.length ds = true → Reps K mg ro' H ds vs → Reps K mg ro H ds vs
  | [], vs, _, q => q
  | d :: ds, vs, c, ⟨v, r, e1, q, t⟩ => by
    have c' : (DL.nc ro.ro.length d && ncs ro.ro.length ds) = true := c
    obtain ⟨c1, c2⟩ := Bool.and_eq_true_iff.mp c'
    exact ⟨v, r, e1, Rep.shrink h hh d v c1 q, Reps.shrink h hh ds r c2 t⟩
end
theorem MRel.shrink (h : ∃ t, ro'.ro = ro.ro ++ t) (hh : ro'.hid = ro.hid) {mo : MO} {ho : HO} (c : ncM ro.ro.length mo = true) (q : MRel K mg ro' H mo ho) : MRel K mg ro H mo ho := by
  cases mo with
  | lst ds => obtain ⟨vs, e1, r⟩ := q; exact ⟨vs, e1, Reps.shrink h hh ds vs c r⟩
  | obj C ns ds => obtain ⟨d, dx, vs, e1, g, l, r⟩ := q; exact ⟨d, dx, vs, e1, g, l, Reps.shrink h hh ds vs c r⟩
  | dic ks ds => obtain ⟨kl, vs, e1, g, l, r⟩ := q; exact ⟨kl, vs, e1, g, l, Reps.shrink h hh ds vs c r⟩
  | tab i C m =>
    obtain ⟨ps, P, e1, t, g, k⟩ := q
    obtain ⟨tl, e⟩ := h
    have hi : i < ro.ro.length := of_decide_eq_true c
    have h' : ∃ t, ro'.ro = ro.ro ++ t := ⟨tl, e⟩
    rw [e, List.getElem?_append_left hi] at g
    exact ⟨ps, P, e1, ⟨t.1, fun ps cv hc => let ⟨c, e1, e2, e3⟩ := t.2 ps cv hc; ⟨c, e1, e2, Pl.sub h' hh e3⟩⟩, g, k⟩
theorem MRel.nc {mo : MO} {ho : HO} (q : MRel K mg ro H mo ho) : ncM ro.ro.length mo = true := by
  cases mo with
  | lst ds => obtain ⟨vs, e1, r⟩ := q; exact Reps.nc ds vs r
  | obj C ns ds => obtain ⟨d, dx, vs, e1, g, l, r⟩ := q; exact Reps.nc ds vs r
  | dic ks ds => obtain ⟨kl, vs, e1, g, l, r⟩ := q; exact Reps.nc ds vs r
  | tab i C m => obtain ⟨ps, P, e1, t, g, k⟩ := q; exact decide_eq_true (List.getElem?_eq_some_iff.mp g).1
variable {M' : MS}
mutual
theorem Rep.clo (h : ∃ t, ro'.ro = ro.ro ++ t) (hh : ro'.hid = ro.hid) (R : RelS K mg ro' M' H) : ∀ (d : D) (v : V) (e : D), DL.clo ro.ro.length M' d = some e → Rep K mg ro' H d v → Rep K mg ro H e v
  | .non, v, e, c, q => by cases c; exact q
  | .bl b, v, e, c, q => by cases c; exact q
  | .int i, v, e, c, q => by cases c; exact q
  | .str x, v, e, c, q => by cases c; exact q
  | .tup ds, v, e, c, ⟨a, vs, e1, q, r⟩ => by
    have c : (clos _ M' ds).map D.tup = some e := c
    obtain ⟨es, c1, rfl⟩ := Option.map_eq_some_iff.mp c
    exact ⟨a, vs, e1, q.imp (fun ⟨z, n⟩ => ⟨z, Pl.sub h hh n⟩) id, Reps.clo h hh R ds vs es c1 r⟩
  | .lst ds, v, e, c, ⟨a, vs, e1, q, n, r⟩ => by
    have c : (clos _ M' ds).map D.lst = some e := c
    obtain ⟨es, c1, rfl⟩ := Option.map_eq_some_iff.mp c
    exact ⟨a, vs, e1, q, Pl.sub h hh n, Reps.clo h hh R ds vs es c1 r⟩
  | .flst ds, v, e, c, ⟨a, vs, e1, q, r⟩ => by
    have c : (clos _ M' ds).map D.flst = some e := c
    obtain ⟨es, c1, rfl⟩ := Option.map_eq_some_iff.mp c
    exact ⟨a, vs, e1, q.imp (fun ⟨z, n⟩ => ⟨z, Pl.sub h hh n⟩) id, Reps.clo h hh R ds vs es c1 r⟩
  | .obj C ns ds, v, e, c, ⟨a, cc, dx, vs, e1, g, q, n, l, r⟩ => by
    have c : (clos _ M' ds).map (D.obj C ns) = some e := c
    obtain ⟨es, c1, rfl⟩ := Option.map_eq_some_iff.mp c
    exact ⟨a, cc, dx, vs, e1, g, q, Pl.sub h hh n, l, Reps.clo h hh R ds vs es c1 r⟩
  | .dic ks ds, v, e, c, ⟨a, kl, vs, e1, g, l, q, n, r⟩ => by
    have c : (clos _ M' ds).map (D.dic ks) = some e := c
    obtain ⟨es, c1, rfl⟩ := Option.map_eq_some_iff.mp c
    exact ⟨a, kl, vs, e1, g, l, q, Pl.sub h hh n, Reps.clo h hh R ds vs es c1 r⟩
  | .glo x, v, e, c, q => by cases c; exact q
  | .ty n, v, e, c, q => by cases c; exact q
  | .exn C ns ds x d, v, e, c, ⟨a, vs, e1, q, n, l, r⟩ => by
    have c : ((clos _ M' ds).map fun es => D.exn C ns es x d) = some e := c
    obtain ⟨es, c1, rfl⟩ := Option.map_eq_some_iff.mp c
    exact ⟨a, vs, e1, q, Pl.sub h hh n, l, Reps.clo h hh R ds vs es c1 r⟩
  | .cell k, v, e, c, q => by
    have c : (if k < ro.ro.length then some (D.cell k) else match M'[k]? with
      | some (.lst ds) => if ncs ro.ro.length ds = true then some (.lst ds) else none
      | some (.obj C ns ds) => if ncs ro.ro.length ds = true then some (.obj C ns ds) else none
      | some (.dic ks ds) => if ncs ro.ro.length ds = true then some (.dic ks ds) else none
      | some (.tab ..) => none
      | none => none) = some e := c
    by_cases hk : k < ro.ro.length
    · rw [if_pos hk] at c; cases c
      exact Rep.shrink h hh (.cell k) v (decide_eq_true hk) q
    · rw [if_neg hk] at c
      have out : ∀ a, ro'.ro[k]? = some a → a ∉ ro.all := fun a g m => by
        rcases List.mem_append.mp m with m | m
        · obtain ⟨t, e'⟩ := h
          obtain ⟨j, hj⟩ := List.getElem?_of_mem m
          have hjl := (List.getElem?_eq_some_iff.mp hj).1
          have hj' : ro'.ro[j]? = some a := by rw [e', List.getElem?_append_left hjl]; exact hj
          obtain ⟨l1, q1⟩ := List.getElem?_eq_some_iff.mp g
          obtain ⟨l2, q2⟩ := List.getElem?_eq_some_iff.mp hj'
          have : k = j := (List.getElem_inj R.nd).mp (q1.trans q2.symm)
          omega
        · exact R.dis a (List.mem_of_getElem? g) (by rw [hh]; exact m)
      cases hm : M'[k]? with
      | none => rw [hm] at c; cases c
      | some mo =>
        rw [hm] at c
        obtain ⟨a, ho, rfl, g, e2, mr⟩ := R.cellAt q hm
        cases mo with
        | lst ds =>
          dsimp only at c
          split at c
          · rename_i hc
            cases c
            obtain ⟨vs, rfl, r⟩ := mr
            exact ⟨a, vs, rfl, e2, out a g, Reps.shrink h hh ds vs hc r⟩
          · cases c
        | obj C ns ds =>
          dsimp only at c
          split at c
          · rename_i hc
            cases c
            obtain ⟨cc, dx, vs, rfl, gg, l, r⟩ := mr
            exact ⟨a, cc, dx, vs, rfl, gg, e2, out a g, l, Reps.shrink h hh ds vs hc r⟩
          · cases c
        | dic ks ds =>
          dsimp only at c
          split at c
          · rename_i hc
            cases c
            obtain ⟨kl, vs, rfl, gg, l, r⟩ := mr
            exact ⟨a, kl, vs, rfl, gg, l, e2, out a g, Reps.shrink h hh ds vs hc r⟩
          · cases c
        | tab i C m => cases c
theorem Reps.clo (h : ∃ t, ro'.ro = ro.ro ++ t) (hh : ro'.hid = ro.hid) (R : RelS K mg ro' M' H) : ∀ (ds : List D) (vs : List V) (es : List D), clos ro.ro.length M' ds = some es → Reps K mg ro' H ds vs → Reps K mg ro H es vs
  | [], vs, es, c, q => by cases c; exact q
  | d :: ds, vs, es, c, ⟨v, r, e1, q, t⟩ => by
    have c : (match DL.clo ro.ro.length M' d, clos ro.ro.length M' ds with | some e, some es => some (e :: es) | _, _ => none) = some es := c
    cases h1 : DL.clo ro.ro.length M' d with
    | none => rw [h1] at c; cases c
    | some e =>
      cases h2 : clos ro.ro.length M' ds with
      | none => rw [h1, h2] at c; cases c
      | some es' =>
        rw [h1, h2] at c; cases c
        exact ⟨v, r, e1, Rep.clo h hh R d v e h1 q, Reps.clo h hh R ds r es' h2 t⟩
end
/-- back to the places that were there -/
theorem RelS.back {M M' : MS} {H' : Hp} (R : RelS K mg ro M H) (R' : RelS K mg ro' M' H') (P : Pres ro H ro' H') (hc : M'.take M.length = M ∨ (M'.take M.length).all (ncM M.length) = true) : RelS K mg ro (M'.take M.length) H' ∧ Pres ro H ro H' := by
  obtain ⟨t, e⟩ := P.pre
  have hl : M.length ≤ M'.length := by rw [← R.len, ← R'.len, e, List.length_append]; omega
  have hmo : ∀ i mo, (M'.take M.length)[i]? = some mo → i < M.length ∧ M'[i]? = some mo := fun i mo h => by
    have hi := (List.getElem?_eq_some_iff.mp h).1
    rw [List.length_take] at hi
    rw [List.getElem?_take_of_lt (by omega)] at h
    exact ⟨by omega, h⟩
  refine ⟨⟨by rw [List.length_take, R.len]; omega, R.nd, fun a ha => R'.live a (by rw [P.hid]; exact ha), R.dis, fun i mo a e1 e2 => ?_⟩, ⟨⟨[], by simp⟩, rfl, P.keep, fun _ h => .inl h⟩⟩
  obtain ⟨hi, e1'⟩ := hmo i mo e1
  have e2' : ro'.ro[i]? = some a := P.get e2
  obtain ⟨ho, e3, m⟩ := R'.at_ i mo a e1' e2'
  refine ⟨ho, e3, m.shrink P.pre P.hid ?_⟩
  rcases hc with hc | hc
  · rw [hc] at e1
    obtain ⟨ho', e4, m'⟩ := R.at_ i mo a e1 e2
    exact m'.nc
  · rw [R.len]
    exact List.all_eq_true.mp hc mo (List.mem_of_getElem? e1)
theorem Post.close {E : XK} {Q : VK} {M : MS} {x : Res D} (R : RelS K mg ro M H) (h : PostD K mg E ro H Q (closeR M x)) : PostD K mg E ro H Q x := by
  cases x with
  | stuck => exact h
  | ok d M' =>
    intro ro' H' v R' P r
    unfold closeR at h
    dsimp only at h
    split at h
    · rename_i hc
      obtain ⟨Rb, Pb⟩ := R.back R' P hc
      split at h
      · rename_i e he
        exact h ro H' v Rb Pb (Rep.clo P.pre P.hid R' d v e (by rw [R.len]; exact he) r)
      · exact h.elim
    · exact h.elim
  | exc C ns ds M' =>
    rintro ro' H' cls dd R' P ⟨c, rfl, hm, r⟩
    unfold closeR at h
    dsimp only at h
    split at h
    · rename_i hc
      obtain ⟨Rb, Pb⟩ := R.back R' P hc
      split at h
      · rename_i es he
        refine h ro H' _ dd Rb Pb ⟨c, rfl, hm, ?_⟩
        rcases r with ⟨r1, r2, r3⟩ | ⟨d, vs, r1, r2, r3, r4, r5⟩
        · subst r3
          cases he
          exact .inl ⟨r1, r2, rfl⟩
        · exact .inr ⟨d, vs, r1, r2, Pl.sub P.pre P.hid r3, r4, Reps.clo P.pre P.hid R' ds vs es (by rw [R.len]; exact he) r5⟩
      · exact h.elim
    · exact h.elim
end

/-! ### the call of a def by its function over data -/
def callE (n : Nat) (F : FM) (g : List D → List D) (a : MA) : ME := fun sd M => (a sd M).bind fun ds M1 => if (g ds).length = n then F (g ds) M1 else .stuck
section
variable {X : Cx} {W : WX}
theorem run_DA {A : Around} {k : Nat} {f : Addr} {fd : FuncData} {ps : List Str} {F : FM} {pins : List (Addr × Obj)} {st : St} {H : Hp} {s : Shared} {Q : VK} {args : Args} {us : List Value} {vs : List V} {ro : Pl} {ds : List D} {M : MS}
    (hF : DOk X.prog X.w X.K X.mg X.base k f fd ps F) (hA : A.frames = X.A.frames) (hr : Room k A) (tk : Takes X W) (hb : BindsTo s fd args (ps.zip us)) (I : Inv X pins st H s) (r : Vals vs us) (R : RelS X.K X.mg ro M H) (rs : Reps X.K X.mg ro H ds vs) (hl : ds.length = ps.length)
    (P : PostD X.K X.mg (fun c d H' => W c d st H') ro H Q (F ds M)) : wpAny (model X.prog X.w) A (call (.ref f) args.pos args.kw) (EP X pins st Q) X.xe s := by
  have e0 : Env0 X.prog X.w X.K X.mg X.base A X.stack s H := by
    have e := I.env0
    exact ⟨by rw [hA]; exact e.frames, e.mod, e.bs, e.bsz, e.funs, e.frf, e.hok, e.bare⟩
  refine wpAny_call (codeAny_mono (hF.run A X.stack s H args us vs Q (WE W st) hr e0 hb r ⟨by rw [← rs.len]; exact hl, ro, ds, M, R, rs, P⟩) fun r s' hq => ?_)
  cases r with
  | error e => exact passAt tk st pins H s e s' I hq
  | ok fl =>
    cases fl with
    | ret u => exact I.after hq
    | next => exact False.elim hq
    | brk => exact False.elim hq
    | cont => exact False.elim hq
theorem run_D {k : Nat} {f : Addr} {fd : FuncData} {ps : List Str} {F : FM} {pins : List (Addr × Obj)} {st : St} {H : Hp} {s : Shared} {Q : VK} {args : Args} {us : List Value} {vs : List V} {ro : Pl} {ds : List D} {M : MS}
    (hF : DOk X.prog X.w X.K X.mg X.base k f fd ps F) (hr : Room k X.A) (tk : Takes X W) (hb : BindsTo s fd args (ps.zip us)) (I : Inv X pins st H s) (r : Vals vs us) (R : RelS X.K X.mg ro M H) (rs : Reps X.K X.mg ro H ds vs) (hl : ds.length = ps.length)
    (P : PostD X.K X.mg (fun c d H' => W c d st H') ro H Q (F ds M)) : wpAny (model X.prog X.w) X.A (call (.ref f) args.pos args.kw) (EP X pins st Q) X.xe s := run_DA hF rfl hr tk hb I r R rs hl P
variable {k : Nat} {f : Addr} {fd : FuncData} {ps : List Str} {F : FM} {x m : Str} {p pos apos : Pos} {e o : Expr} {es : List Expr} {kws : List Keyword} {ma : MA} {mo : ME} {dfl : List D} {dvs : List V} {dV : List Value}
/-- the defaults that fill up -/
structure Dfl (X : Cx) (fd : FuncData) (ps : List Str) (n : Nat) (dfl : List D) : Prop where
  ex : ∃ (dvs : List V) (dV : List Value), Binds X.K fd ps dV ∧ Vals dvs dV ∧ ∀ ro H, Reps X.K X.mg ro H dfl dvs
theorem Dfl.none {fd : FuncData} {ps : List Str} {n : Nat} (h : Binds X.K fd ps []) : Dfl X fd ps n [] := ⟨[], [], h, .nil, fun _ _ => rfl⟩
theorem de_call (hF : DOk X.prog X.w X.K X.mg X.base k f fd ps F) (hr : Room k X.A) (tk : Takes X W) (hg : Gl X x) (hm : X.mg x = some (.ref f)) (hk : PySem.W.keepIn X.K (.ref f) = true) (hd : Dfl X fd ps 0 dfl) (ha : DA X W (e :: es) ma)
    (hdb : (x == ("__debug__" : Str)) = false := by decide) (he : starEach (e :: es) X.env = (false, eval e X.env) :: starEach es X.env := by rfl) (hpl : (backTo pos (starEach es X.env)).any (·.1) = false := by rfl) :
    DE X W (.Call (.Name x p) (e :: es) [] pos) (callE ps.length F (· ++ dfl) ma) := by
  obtain ⟨dvs, dV, hb, hv, hdf⟩ := hd.ex
  refine ⟨⟨fun pins s st H Q I q => ?_⟩⟩
  obtain ⟨ro, sd, M, R, S, P⟩ := q
  refine wpAny_Call_Name_kw (ld_glob I hg hm ?_ hdb)
  refine PySem.W.callWith_K (h₀ := X.base) I.ok.mod.kin hk (thn (ha.pa.run pos pins s st H _ I ⟨ro, sd, M, R, S, Post.bind P⟩) fun us s1 ⟨vs, H1, I1, r, ro1, M1, ds, R1, P1, r1, q1⟩ => ⟨I1.kIn, ?_⟩) he hpl
  dsimp only at q1
  split at q1
  · rename_i hl
    have r2 := r.append hv
    have rs := r1.append (hdf ro1 H1)
    exact run_D (args := ⟨us, []⟩) hF hr tk (hb s1 us I1.kIn (by rw [← r2.length, ← rs.len]; exact hl)) I1 r2 R1 rs hl q1
  · exact q1.elim
theorem de_call0 (hF : DOk X.prog X.w X.K X.mg X.base k f fd ps F) (hr : Room k X.A) (tk : Takes X W) (hg : Gl X x) (hm : X.mg x = some (.ref f)) (hk : PySem.W.keepIn X.K (.ref f) = true) (hd : Dfl X fd ps 0 dfl)
    (hdb : (x == ("__debug__" : Str)) = false := by decide) : DE X W (.Call (.Name x p) [] [] pos) (callE ps.length F (· ++ dfl) nilA) := by
  obtain ⟨dvs, dV, hb, hv, hdf⟩ := hd.ex
  refine ⟨⟨fun pins s st H Q I q => ?_⟩⟩
  obtain ⟨ro, sd, M, R, S, P⟩ := q
  refine wpAny_Call_Name_kw (ld_glob I hg hm ?_ hdb)
  refine PySem.W.callWith_K0 I.kIn hk ?_
  have P : PostD X.K X.mg _ ro H Q (if ([] ++ dfl).length = ps.length then F ([] ++ dfl) M else .stuck) := P
  split at P
  · rename_i hl
    have r2 := (Vals.append (xs := []) .nil hv)
    have rs := hdf ro H
    exact run_D (us := dV) (args := ⟨[], []⟩) hF hr tk (by have := hb s [] I.kIn (by rw [← r2.length, List.nil_append, ← rs.len]; exact hl); simpa using this) I hv R rs hl P
  · exact P.elim
/-- keywords -/
structure DK (X : Cx) (W : WX) (kws : List Keyword) (m : MA) : Prop where
  pk : PK X kws (liftA X.K X.mg W m)
theorem dk_nil : DK X W [] nilA := by
  refine ⟨⟨fun pos pins s st H Q I q => pk_nil.run pos pins s st H Q I ?_⟩⟩
  obtain ⟨ro, sd, M, R, S, P⟩ := q
  exact P ro H [] R (Pres.refl _ _) rfl
theorem dk_cons {nm : Option Str} {kpos : Pos} {me : ME} {ms : MA} (ha : DE X W e me) (hr : DK X W kws ms) : DK X W (⟨nm, e, kpos⟩ :: kws) (consA me ms) := by
  refine ⟨⟨fun pos pins s st H Q I q => (pk_cons ha.pe hr.pk).run pos pins s st H Q I ?_⟩⟩
  obtain ⟨ro, sd, M, R, S, P⟩ := q
  refine ⟨ro, sd, M, R, S, (Post.bind P).imp fun x H1 ⟨ro1, M1, d, R1, P1, r1, q1⟩ => ?_⟩
  refine ⟨ro1, sd, M1, R1, S.mono P1, (Post.bind q1).imp fun xs H2 ⟨ro2, M2, ds, R2, P2, r2, q2⟩ => ?_⟩
  exact q2 ro2 H2 _ R2 (Pres.refl _ _) ⟨x, xs, rfl, Rep.mono P2 d x r1, r2⟩
/-- how positional values and keywords are put in the parameters' order -/
structure KwB (X : Cx) (fd : FuncData) (ps : List Str) (n : Nat) (ks : List Str) (gD : List D → List D → List D) : Prop where
  ex : ∃ (g : List Value → List Value → List Value) (gV : List V → List V → List V), KBn X.K fd ps n ks g gV ∧ ∀ ro H ds vs es zs, Reps X.K X.mg ro H ds vs → Reps X.K X.mg ro H es zs → Reps X.K X.mg ro H (gD ds es) (gV vs zs)
def callKE (n np nk : Nat) (F : FM) (gD : List D → List D → List D) (a b : MA) : ME := fun sd M => (a sd M).bind fun ds M1 => (b sd M1).bind fun es M2 => if ds.length = np ∧ es.length = nk ∧ (gD ds es).length = n then F (gD ds es) M2 else .stuck
theorem de_callK {np : Nat} {ks : List Str} {gD : List D → List D → List D} {mk : MA} (hF : DOk X.prog X.w X.K X.mg X.base k f fd ps F) (hr : Room k X.A) (tk : Takes X W) (hg : Gl X x) (hm : X.mg x = some (.ref f)) (hk : PySem.W.keepIn X.K (.ref f) = true)
    (hb : KwB X fd ps np ks gD) (ha : DA X W (e :: es) ma) (hkw : DK X W kws mk) (hall : (backToKw pos (keywordEach kws X.env)).all (·.1.isSome) = true := by rfl) (hks : (backToKw pos (keywordEach kws X.env)).filterMap (·.1) = ks := by rfl)
    (hdb : (x == ("__debug__" : Str)) = false := by decide) (he : starEach (e :: es) X.env = (false, eval e X.env) :: starEach es X.env := by rfl)
    (hpl : ((backTo pos (starEach (e :: es) X.env)).any (·.1) || (backToKw pos (keywordEach kws X.env)).any (·.1.isNone)) = false := by rfl) :
    DE X W (.Call (.Name x p) (e :: es) kws pos) (callKE ps.length np ks.length F gD ma mk) := by
  obtain ⟨g, gV, hb, hgD⟩ := hb.ex
  refine ⟨⟨fun pins s st H Q I q => ?_⟩⟩
  obtain ⟨ro, sd, M, R, S, P⟩ := q
  refine wpAny_Call_Name_kw (ld_glob I hg hm ?_ hdb)
  refine PySem.W.callWith_KW (h₀ := X.base) I.ok.mod.kin hk hall (thn (ha.pa.run pos pins s st H _ I ⟨ro, sd, M, R, S, Post.bind P⟩) fun us s1 ⟨vs, H1, I1, r, ro1, M1, ds, R1, P1, r1, q1⟩ => ?_) hpl he
  refine thn (hkw.pk.run pos pins s1 st H1 _ I1 ⟨ro1, sd, M1, R1, S.mono P1, Post.bind q1⟩) fun ws s2 ⟨zs, H2, I2, rz, ro2, M2, es', R2, P2, r2, q2⟩ => ⟨I2.kIn, ?_⟩
  split at q2
  · rename_i hl
    obtain ⟨l1, l2, l3⟩ := hl
    have rs := hgD ro2 H2 ds vs es' zs (Reps.mono P2 _ _ r1) r2
    rw [hks]
    exact run_D (args := ⟨us, ks.zip ws⟩) hF hr tk (hb.to s2 us ws I2.kIn (by rw [← r.length, ← r1.len]; exact l1) (by rw [← rz.length, ← r2.len]; exact l2)) I2 (hb.rel r rz) R2 rs l3 q2
  · exact q2.elim

/-! ### instances -/
/-- a class of the text -/
structure CInfo (K : PySem.W.Frag) (mg : Str → Option Value) (C : String) (c : Addr) (fs : List String) : Prop where
  mgC : mg (Str.ofString C) = some (.ref c)
  cl : Cls K c
  na : ∀ f, f ∈ fs → NoAttr K c (Str.ofString f)
def fldD (cs : List String) (f : String) (d : D) (M : MS) : Res D := match d with
  | .obj C ns ds => if C ∈ cs then (match lookF ns ds f with
    | some e => .ok e M
    | none => .stuck) else .stuck
  | .cell n => (match M[n]? with
    | some (.obj C ns ds) => if C ∈ cs then (match lookF ns ds f with
      | some e => .ok e M
      | none => .stuck) else .stuck
    | _ => .stuck)
  | _ => .stuck
theorem de_fld {cs : List String} {f : String} (hcs : ∀ C, C ∈ cs → ∃ c fs, CInfo X.K X.mg C c fs ∧ f ∈ fs) (he : DE X W o mo) (hb : attributeBase o (Str.ofString f) X.env (eval o X.env) = eval o X.env := by rfl) : DE X W (.Attribute o (Str.ofString f) pos) (unE (fldD cs f) mo) := by
  refine ⟨⟨fun pins s st H Q I q => (pe_fld he.pe hb).run pins s st H Q I ?_⟩⟩
  obtain ⟨ro, sd, M, R, S, P⟩ := q
  refine ⟨ro, sd, M, R, S, (Post.bind P).imp fun x H1 ⟨ro1, M1, d, R1, P1, r1, q1⟩ => ?_⟩
  have fin : ∀ (C : String) (ns : List String) (ds : List D) (a c dx : Addr) (vs : List V), X.mg (Str.ofString C) = some (.ref c) → H1 a = some (.ins c dx (zipF ns vs)) → Reps X.K X.mg ro1 H1 ds vs →
      PostD X.K X.mg (fun c d H' => W c d st H') ro1 H1 Q (if C ∈ cs then (match lookF ns ds f with | some e => .ok e M1 | none => .stuck) else .stuck) →
      ∃ C dx fs v, H1 a = some (.ins C dx fs) ∧ Cls X.K C ∧ NoAttr X.K C (Str.ofString f) ∧ fs.lookup (Str.ofString f) = some v ∧ Q v H1 := fun C ns ds a c dx vs hmg hH rs q1 => by
    split at q1
    · rename_i hC
      obtain ⟨c', fs, ci, hf⟩ := hcs C hC
      have e := ci.mgC
      rw [hmg] at e; cases e
      split at q1
      · rename_i e he
        obtain ⟨v, hv, rv⟩ := lookF_some rs he
        exact ⟨c, dx, _, v, hH, ci.cl, ci.na f hf, hv, PostD.pure R1 rv q1⟩
      · exact q1.elim
    · exact q1.elim
  cases d with
  | obj C ns ds =>
    obtain ⟨a, c, dx, vs, rfl, hmg, hH, _, _, rs⟩ := r1
    obtain ⟨C', dx', fs, v, z⟩ := fin C ns ds a c dx vs hmg hH rs q1
    exact ⟨a, C', dx', fs, v, rfl, z⟩
  | cell n =>
    have q1 : PostD X.K X.mg (fun c d H' => W c d st H') ro1 H1 Q (match M1[n]? with | some (.obj C ns ds) => if C ∈ cs then (match lookF ns ds f with | some e => .ok e M1 | none => .stuck) else .stuck | _ => .stuck) := q1
    cases hm : M1[n]? with
    | none => rw [hm] at q1; exact q1.elim
    | some mo =>
      rw [hm] at q1
      cases mo with
      | obj C ns ds =>
        obtain ⟨a, ho, rfl, _, hH, c, dx, vs, rfl, hmg, _, rs⟩ := R1.cellAt r1 hm
        obtain ⟨C', dx', fs, v, z⟩ := fin C ns ds a c dx vs hmg hH rs q1
        exact ⟨a, C', dx', fs, v, rfl, z⟩
      | _ => exact q1.elim
  | _ => exact q1.elim
/-- o.f = e, o a changeable instance -/
def setFldD (cs : List String) (f : String) (M : MS) (o v : D) : Option MS := match o with
  | .cell n => (match M[n]? with
    | some (.obj C ns ds) => if C ∈ cs ∧ ns.length < 900 ∧ ns.length = ds.length then some (M.set n (.obj C (putN ns ds f v).1 (putN ns ds f v).2)) else none
    | _ => none)
  | _ => none
def setFldS (cs : List String) (f : String) (mo m : ME) : MST := fun sd M => SRes.ofE (m sd M) sd fun v M1 => SRes.ofE (mo sd M1) sd fun o M2 => match setFldD cs f M2 o v with
  | some M3 => .nx sd M3
  | none => .stuck
theorem ds_fld {cs : List String} {f : String} {pos' : Pos} {me : ME} (hcs : ∀ C, C ∈ cs → ∃ c fs, CInfo X.K X.mg C c fs ∧ f ∈ fs) (ho : DE X W o mo) (he : DE X W e me) (hs : swapsWith e (some (.Attribute o (Str.ofString f) pos')) pos.line X.env = pure false := by rfl) :
    DS X W (.Assign [.Attribute o (Str.ofString f) pos'] e pos) (setFldS cs f mo me) := by
  refine ⟨⟨fun pins s st H D0 I q => (ps_fld ho.pe he.pe hs).run pins s st H D0 I ?_⟩⟩
  obtain ⟨ro, sd, M, R, S, P⟩ := q
  refine ⟨ro, sd, M, R, S, (PostS.ofE P S).imp fun x H1 ⟨ro1, M1, d, R1, P1, r1, q1⟩ => ?_⟩
  refine ⟨ro1, sd, M1, R1, S.mono P1, (PostS.ofE q1 (S.mono P1)).imp fun y H2 ⟨ro2, M2, o', R2, P2, r2, q2⟩ => ?_⟩
  have r1' := Rep.mono P2 _ _ r1
  cases o' with
  | cell n =>
    have q2 : PostS X.K X.mg W ro2 H2 D0 (match (match M2[n]? with | some (.obj C ns ds) => if C ∈ cs ∧ ns.length < 900 ∧ ns.length = ds.length then some (M2.set n (.obj C (putN ns ds f d).1 (putN ns ds f d).2)) else none | _ => none) with | some M3 => .nx sd M3 | none => .stuck) := q2
    cases hm : M2[n]? with
    | none => rw [hm] at q2; exact q2.elim
    | some mo =>
      rw [hm] at q2
      cases mo with
      | obj C ns ds =>
        dsimp only at q2
        by_cases hc : C ∈ cs ∧ ns.length < 900 ∧ ns.length = ds.length
        · rw [if_pos hc] at q2
          obtain ⟨a, ho, rfl, g, hH, c, dx, vs, rfl, hmg, hl, rs⟩ := R2.cellAt r2 hm
          obtain ⟨c', fs, ci, hf⟩ := hcs C hc.1
          have e := ci.mgC
          rw [hmg] at e; cases e
          obtain ⟨ws, w1, w2, w3⟩ := putN_reps (f := f) rs hc.2.2 r1'
          obtain ⟨R3, P3⟩ := R2.change (mo := .obj C (putN ns ds f d).1 (putN ns ds f d).2) (o := .ins c dx (zipF (putN ns ds f d).1 ws)) g ⟨c, dx, ws, rfl, hmg, w3, w2⟩
          refine ⟨a, c, dx, _, rfl, hH, ci.cl, ci.na f hf, by rw [length_zipF hl]; omega, ?_⟩
          rw [w1]
          exact q2 ro2 _ _ R3 P3 (((S.mono P1).mono P2).mono P3)
        · rw [if_neg hc] at q2; exact q2.elim
      | _ => exact q2.elim
  | _ => exact q2.elim
/-- o.m(..) -/
def insOf (M : MS) (C m : String) : D → Bool
  | .obj C' ns _ => decide (C' = C) && !ns.contains m
  | .cell n => match M[n]? with
    | some (.obj C' ns _) => decide (C' = C) && !ns.contains m
    | _ => false
  | _ => false
def methE (C m : String) (n : Nat) (F : FM) (g : List D → List D) (o : ME) (a : MA) : ME := fun sd M => (o sd M).bind fun d M1 => if insOf M1 C m d = true then (a sd M1).bind fun ds M2 => if (g (d :: ds)).length = n then F (g (d :: ds)) M2 else .stuck else .stuck
theorem ins_of {ro : Pl} {H : Hp} {M : MS} {C m : String} {c : Addr} {fs : List String} (ci : CInfo X.K X.mg C c fs) (R : RelS X.K X.mg ro M H) {d : D} {v : V} (r : Rep X.K X.mg ro H d v) (h : insOf M C m d = true) : ∃ a dx gs, v = .ref a ∧ H a = some (.ins c dx gs) ∧ gs.lookup (Str.ofString m) = none := by
  cases d with
  | obj C' ns ds =>
    have h : (decide (C' = C) && !ns.contains m) = true := h
    simp only [Bool.and_eq_true, decide_eq_true_eq, Bool.not_eq_true'] at h
    obtain ⟨rfl, hn⟩ := h
    obtain ⟨a, c', dx, vs, rfl, hmg, hH, _, _, rs⟩ := r
    have e := ci.mgC
    rw [hmg] at e; cases e
    exact ⟨a, dx, _, rfl, hH, lookF_none hn⟩
  | cell n =>
    have h : (match M[n]? with | some (.obj C' ns _) => decide (C' = C) && !ns.contains m | _ => false) = true := h
    cases hm : M[n]? with
    | none => rw [hm] at h; cases h
    | some mo =>
      rw [hm] at h
      cases mo with
      | obj C' ns ds =>
        simp only [Bool.and_eq_true, decide_eq_true_eq, Bool.not_eq_true'] at h
        obtain ⟨rfl, hn⟩ := h
        obtain ⟨a, ho, rfl, _, hH, c', dx, vs, rfl, hmg, _, rs⟩ := R.cellAt r hm
        have e := ci.mgC
        rw [hmg] at e; cases e
        exact ⟨a, dx, _, rfl, hH, lookF_none hn⟩
      | _ => cases h
  | _ => cases h
theorem de_meth {C m : String} {c : Addr} {fs : List String} {pl : Sem Bool} (ci : CInfo X.K X.mg C c fs) (hmt : Meth X.K c (Str.ofString m) f) (hF : DOk X.prog X.w X.K X.mg X.base k f fd ps F) (hr : Room k X.A) (tk : Takes X W) (hd : Dfl X fd ps 0 dfl) (ho : DE X W o mo) (ha : DA X W (e :: es) ma)
    (hst : starEach (e :: es) X.env = (false, eval e X.env) :: starEach es X.env := by rfl) (hpl : (backTo pos (starEach es X.env)).any (·.1) = false := by rfl)
    (ht : eval (.Call (.Attribute o (Str.ofString m) apos) (e :: es) [] pos) X.env = (do
      let ov ← eval o X.env
      standAt apos.atName
      let (f, first) ← holding [ov] (getMethod ov (Str.ofString m) pl)
      callWith pos f first (backTo pos (starEach (e :: es) X.env)) (backToKw pos (keywordEach [] X.env))) := by rfl) :
    DE X W (.Call (.Attribute o (Str.ofString m) apos) (e :: es) [] pos) (methE C m ps.length F (· ++ dfl) mo ma) := by
  obtain ⟨dvs, dV, hb, hv, hdf⟩ := hd.ex
  refine ⟨⟨fun pins s st H Q I q => ?_⟩⟩
  obtain ⟨ro, sd, M, R, S, P⟩ := q
  refine PySem.W.methodCall_KW (pl := pl) (thn (ho.pe.run pins s st H _ I ⟨ro, sd, M, R, S, Post.bind P⟩) fun u s1 ⟨x, H1, I1, rx, ro1, M1, d, R1, P1, r1, q1⟩ => ?_) ht
  dsimp only at q1
  split at q1
  · rename_i hi
    obtain ⟨a, dx, gs, rfl, hH, hl⟩ := ins_of ci R1 r1 hi
    obtain rfl : u = Value.ref a := rx
    refine getmeth_ok I1 hH ci.cl hmt hl ?_
    refine PySem.W.callWith_K (first := [.ref a]) (h₀ := X.base) I.ok.mod.kin hmt.kp (thn (ha.pa.run pos pins s1 st H1 _ I1 ⟨ro1, sd, M1, R1, S.mono P1, Post.bind q1⟩) fun us s2 ⟨vs, H2, I2, r, ro2, M2, ds, R2, P2, r2, q2⟩ => ⟨I2.kIn, ?_⟩) hst hpl
    split at q2
    · rename_i hl'
      have r3 : Vals (V.ref a :: (vs ++ dvs)) (Value.ref a :: (us ++ dV)) := .cons rfl (r.append hv)
      have rs : Reps X.K X.mg ro2 H2 (d :: (ds ++ dfl)) (V.ref a :: (vs ++ dvs)) := ⟨_, _, rfl, Rep.mono P2 _ _ r1, r2.append (hdf ro2 H2)⟩
      refine run_D (args := ⟨.ref a :: us, []⟩) (us := .ref a :: (us ++ dV)) hF hr tk (hb s2 (.ref a :: us) I2.kIn ?_) I2 r3 R2 rs hl' q2
      rw [List.cons_append, ← r3.length, ← rs.len]; exact hl'
    · exact q2.elim
  · exact q1.elim
theorem de_meth0 {C m : String} {c : Addr} {fs : List String} {pl : Sem Bool} (ci : CInfo X.K X.mg C c fs) (hmt : Meth X.K c (Str.ofString m) f) (hF : DOk X.prog X.w X.K X.mg X.base k f fd ps F) (hr : Room k X.A) (tk : Takes X W) (hd : Dfl X fd ps 0 dfl) (ho : DE X W o mo)
    (ht : eval (.Call (.Attribute o (Str.ofString m) apos) [] [] pos) X.env = (do
      let ov ← eval o X.env
      standAt apos.atName
      let (f, first) ← holding [ov] (getMethod ov (Str.ofString m) pl)
      callWith pos f first (backTo pos (starEach [] X.env)) (backToKw pos (keywordEach [] X.env))) := by rfl) :
    DE X W (.Call (.Attribute o (Str.ofString m) apos) [] [] pos) (methE C m ps.length F (· ++ dfl) mo nilA) := by
  obtain ⟨dvs, dV, hb, hv, hdf⟩ := hd.ex
  refine ⟨⟨fun pins s st H Q I q => ?_⟩⟩
  obtain ⟨ro, sd, M, R, S, P⟩ := q
  refine PySem.W.methodCall_KW (pl := pl) (thn (ho.pe.run pins s st H _ I ⟨ro, sd, M, R, S, Post.bind P⟩) fun u s1 ⟨x, H1, I1, rx, ro1, M1, d, R1, P1, r1, q1⟩ => ?_) ht
  dsimp only at q1
  split at q1
  · rename_i hi
    obtain ⟨a, dx, gs, rfl, hH, hl⟩ := ins_of ci R1 r1 hi
    obtain rfl : u = Value.ref a := rx
    refine getmeth_ok I1 hH ci.cl hmt hl ?_
    refine PySem.W.callWith_K0 (first := [.ref a]) I1.kIn hmt.kp ?_
    have q1 : PostD X.K X.mg _ ro1 H1 Q (if (d :: ([] ++ dfl)).length = ps.length then F (d :: ([] ++ dfl)) M1 else .stuck) := q1
    split at q1
    · rename_i hl'
      have r3 : Vals (V.ref a :: dvs) (Value.ref a :: dV) := .cons rfl hv
      have rs : Reps X.K X.mg ro1 H1 (d :: dfl) (V.ref a :: dvs) := ⟨_, _, rfl, r1, hdf ro1 H1⟩
      refine run_D (args := ⟨[.ref a], []⟩) (us := .ref a :: dV) hF hr tk (hb s1 [.ref a] I1.kIn ?_) I1 r3 R1 rs hl' q1
      show (Value.ref a :: dV).length = _
      rw [← r3.length, ← rs.len]; exact hl'
    · exact q1.elim
  · exact q1.elim
/-- C(..): a new instance; it will be changed, or it is kept as it is behind its __init__ -/
def mkD (C : String) (F : FM) : FM := fun ds M => (F (.cell M.length :: ds) (M ++ [.obj C [] []])).bind fun r M' => match r with
  | .non => .ok (.cell M.length) M'
  | _ => .stuck
noncomputable def mkT (C : String) (F : FM) : FM := fun ds M => closeR M (mkD C F ds M)
theorem run_mk {C : String} {c : Addr} {fs : List String} {pins : List (Addr × Obj)} {st : St} {H : Hp} {s : Shared} {Q : VK} {us wus : List Value} {kw : List (Str × Value)} {vs : List V} {ro : Pl} {ds : List D} {M : MS} (ci : CInfo X.K X.mg C c fs) (Mk' : Mk X.K c f)
    (hF : DOk X.prog X.w X.K X.mg X.base k f fd ps F) (hr : Room (k + 1) X.A) (tk : Takes X W) (hb : ∀ self, BindsTo { s with heap := (s.heap.push PySem.W.emptyDict).push (PySem.W.instObj c s.heap.objs.size) } fd ⟨self :: us, kw⟩ (ps.zip (self :: wus))) (I : Inv X pins st H s) (r : Vals vs wus) (R : RelS X.K X.mg ro M H)
    (rs : Reps X.K X.mg ro H ds vs) (hl : (ds.length + 1) = ps.length) (hkw : kw = []) (P : PostD X.K X.mg (fun c d H' => W c d st H') ro H Q (mkD C F ds M)) : wpAny (model X.prog X.w) X.A (call (.ref c) us kw) (EP X pins st Q) X.xe s := by
  subst hkw
  have n1 : H (s.heap.objs.size + 1) = none := I.hok.fresh (Nat.le_succ _)
  have n2 : H s.heap.objs.size = none := I.hok.fresh (Nat.le_refl _)
  have ne : s.heap.objs.size ≠ s.heap.objs.size + 1 := Nat.ne_of_lt (Nat.lt_succ_self _)
  have I2 := Inv.made (C := c) I
  obtain ⟨Ra, Pa⟩ := R.alloc (o := .own (s.heap.objs.size + 1)) n2
  have n3 : upd H s.heap.objs.size (.own (s.heap.objs.size + 1)) (s.heap.objs.size + 1) = none := by rw [upd_ne ne.symm]; exact n1
  obtain ⟨Rb, Pb⟩ := Ra.allocM (mo := .obj C [] []) (o := .ins c s.heap.objs.size []) n3 ⟨c, _, [], rfl, ci.mgC, rfl, rfl⟩
  have r2 : Vals (V.ref (s.heap.objs.size + 1) :: vs) (Value.ref (s.heap.objs.size + 1) :: wus) := .cons rfl r
  have rs2 : Reps X.K X.mg (ro.add (s.heap.objs.size + 1)) _ (D.cell M.length :: ds) (V.ref (s.heap.objs.size + 1) :: vs) :=
    ⟨_, _, rfl, ⟨_, rfl, by show (ro.ro ++ [_])[M.length]? = _; rw [← R.len, List.getElem?_append_right (Nat.le_refl _)]; simp⟩, Reps.mono Pb _ _ (Reps.mono Pa _ _ rs)⟩
  have P2 := Post.moves (Post.moves P Pa) Pb
  refine wpAny_call (make_map (f := f) I.kIn Mk'.makes Mk'.init (beq_iff_eq.mp Mk'.fn) (codeAny_mono (hF.run _ X.stack _ _ ⟨Value.ref (s.heap.objs.size + 1) :: us, []⟩ (Value.ref (s.heap.objs.size + 1) :: wus) _
    (fun v H2 => v = .non ∧ Q (.ref (s.heap.objs.size + 1)) H2) (WE W st) (hr.make c us []) (I2.env0.make c us []) (hb _) r2 ⟨by rw [← rs2.len, List.length_cons]; exact hl, _, _, _, Rb, rs2, ?_⟩) fun r s' hq' => ?_))
  · unfold mkD at P2
    cases e : F (.cell M.length :: ds) (M ++ [.obj C [] []]) with
    | stuck => rw [e] at P2; exact P2
    | exc C' ns es M' => rw [e] at P2; exact P2
    | ok d M' =>
      rw [e, Res.bind_ok] at P2
      cases d with
      | non =>
        intro ro' H' v R' P' rv
        cases (show v = V.non from rv)
        refine ⟨rfl, P2 ro' H' _ R' P' ⟨_, rfl, P'.get ?_⟩⟩
        show (ro.ro ++ [_])[M.length]? = _
        rw [← R.len, List.getElem?_append_right (Nat.le_refl _)]; simp
      | _ => exact P2.elim
  · cases r with
    | error e => exact passAt tk st pins _ _ e s' I2 hq'
    | ok fl =>
      cases fl with
      | ret u =>
        obtain ⟨v, H', I3, rv, ev, q3⟩ := I2.after hq'
        subst ev
        exact ⟨rv, ⟨V.ref (s.heap.objs.size + 1), H', I3, rfl, q3⟩⟩
      | next => exact False.elim hq'
      | brk => exact False.elim hq'
      | cont => exact False.elim hq'
/-- the two ways of taking it -/
def MkAs (X : Cx) (C : String) (F G : FM) : Prop := ∀ (ro : Pl) (H : Hp) (E : XK) (Q : VK) (ds : List D) (M : MS), RelS X.K X.mg ro M H → PostD X.K X.mg E ro H Q (G ds M) → PostD X.K X.mg E ro H Q (mkD C F ds M)
theorem mkAs_D {C : String} {F : FM} : MkAs X C F (mkD C F) := fun _ _ _ _ _ _ _ h => h
theorem mkAs_T {C : String} {F : FM} : MkAs X C F (mkT C F) := fun _ _ _ _ _ _ R h => Post.close R h
theorem de_mk {C : String} {c : Addr} {fs : List String} {G : FM} (hG : MkAs X C F G) (ci : CInfo X.K X.mg C c fs) (Mk' : Mk X.K c f) (hF : DOk X.prog X.w X.K X.mg X.base k f fd ps F) (hr : Room (k + 1) X.A) (tk : Takes X W) (hg : Gl X (Str.ofString C)) (hd : Dfl X fd ps 0 dfl) (ha : DA X W (e :: es) ma)
    (hps : 0 < ps.length := by decide) (hdb : (Str.ofString C == ("__debug__" : Str)) = false := by decide) (he : starEach (e :: es) X.env = (false, eval e X.env) :: starEach es X.env := by rfl) (hpl : (backTo pos (starEach es X.env)).any (·.1) = false := by rfl) :
    DE X W (.Call (.Name (Str.ofString C) p) (e :: es) [] pos) (callE (ps.length - 1) G (· ++ dfl) ma) := by
  obtain ⟨dvs, dV, hb, hv, hdf⟩ := hd.ex
  refine ⟨⟨fun pins s st H Q I q => ?_⟩⟩
  obtain ⟨ro, sd, M, R, S, P⟩ := q
  refine wpAny_Call_Name_kw (ld_glob I hg ci.mgC ?_ hdb)
  refine PySem.W.callWith_K (h₀ := X.base) I.ok.mod.kin Mk'.kp (thn (ha.pa.run pos pins s st H _ I ⟨ro, sd, M, R, S, Post.bind P⟩) fun us s1 ⟨vs, H1, I1, r, ro1, M1, ds, R1, P1, r1, q1⟩ => ⟨I1.kIn, ?_⟩) he hpl
  dsimp only at q1
  split at q1
  · rename_i hl
    have r2 := r.append hv
    have rs := r1.append (hdf ro1 H1)
    refine run_mk ci Mk' hF hr tk (fun self => ?_) I1 r2 R1 rs (by omega) rfl (hG _ _ _ _ _ _ R1 q1)
    have h3 := hb { s1 with heap := (s1.heap.push PySem.W.emptyDict).push (PySem.W.instObj c s1.heap.objs.size) } (self :: us) ((Inv.made (C := c) I1).kIn) (by
      rw [List.cons_append, List.length_cons, ← r2.length, ← rs.len]; omega)
    rw [List.cons_append] at h3
    exact h3
  · exact q1.elim
theorem de_mk0 {C : String} {c : Addr} {fs : List String} {G : FM} (hG : MkAs X C F G) (ci : CInfo X.K X.mg C c fs) (Mk' : Mk X.K c f) (hF : DOk X.prog X.w X.K X.mg X.base k f fd ps F) (hr : Room (k + 1) X.A) (tk : Takes X W) (hg : Gl X (Str.ofString C)) (hd : Dfl X fd ps 0 dfl)
    (hps : 0 < ps.length := by decide) (hdb : (Str.ofString C == ("__debug__" : Str)) = false := by decide) : DE X W (.Call (.Name (Str.ofString C) p) [] [] pos) (callE (ps.length - 1) G (· ++ dfl) nilA) := by
  obtain ⟨dvs, dV, hb, hv, hdf⟩ := hd.ex
  refine ⟨⟨fun pins s st H Q I q => ?_⟩⟩
  obtain ⟨ro, sd, M, R, S, P⟩ := q
  refine wpAny_Call_Name_kw (ld_glob I hg ci.mgC ?_ hdb)
  refine PySem.W.callWith_K0 I.kIn Mk'.kp ?_
  have P : PostD X.K X.mg _ ro H Q (if ([] ++ dfl).length = ps.length - 1 then G ([] ++ dfl) M else .stuck) := P
  split at P
  · rename_i hl
    rw [List.nil_append] at hl P
    refine run_mk (us := []) ci Mk' hF hr tk (fun self => ?_) I hv R (hdf ro H) (by omega) rfl (hG _ _ _ _ _ _ R P)
    have h3 := hb { s with heap := (s.heap.push PySem.W.emptyDict).push (PySem.W.instObj c s.heap.objs.size) } [self] ((Inv.made (C := c) I).kIn) (by
      rw [List.cons_append, List.length_cons, List.nil_append, ← hv.length, ← (hdf ro H).len]; omega)
    exact h3
  · exact P.elim
end
end DL

/-! DL: == and in over data, own operators, isinstance, join. -/
namespace DL
open PySem PySem.Spec L2
open PyProof.Rows hiding St

/-! ### data as PyData -/
def mapO {A B : Type} (f : A → Option B) : List A → Option (List B)
  | [] => some []
  | a :: r => match f a, mapO f r with
    | some b, some bs => some (b :: bs)
    | _, _ => none
def pyN : Nat → MS → D → Option PyData
  | 0, _, _ => none
  | n + 1, M, d => match d with
    | .non => some .none
    | .bl b => some (.bool b)
    | .int i => some (.int i)
    | .str x => some (.str (tx x))
    | .tup ds => (mapO (pyN n M) ds).map .tuple
    | .lst ds => (mapO (pyN n M) ds).map .list
    | .flst ds => (mapO (pyN n M) ds).map .list
    | .cell k => match M[k]? with
      | some (.lst ds) => (mapO (pyN n M) ds).map .list
      | _ => none
    | _ => none
abbrev pyD (M : MS) (d : D) : Option PyData := pyN 30 M d
section
variable {K : PySem.W.Frag} {mg : Str → Option Value} {ro : Pl} {H : Hp} {M : MS}
theorem dpAll_of {n : Nat} (ih : ∀ d v p, pyN n M d = some p → Rep K mg ro H d v → Dp K H v p) : ∀ (ds : List D) (vs : List V) (ps : List PyData), mapO (pyN n M) ds = some ps → Reps K mg ro H ds vs → DpAll K H vs ps
  | [], vs, ps, e, r => by cases e; cases (show vs = [] from r); exact .nil
  | d :: ds, vs, ps, e, ⟨v, w, ev, q, t⟩ => by
    subst ev
    unfold mapO at e
    cases h1 : pyN n M d with
    | none => rw [h1] at e; cases e
    | some p =>
      cases h2 : mapO (pyN n M) ds with
      | none => rw [h1, h2] at e; cases e
      | some qs =>
        rw [h1, h2] at e; cases e
        exact .cons (ih d v p h1 q) (dpAll_of ih ds w qs h2 t)
theorem dp_of (R : RelS K mg ro M H) : ∀ (n : Nat) (d : D) (v : V) (p : PyData), pyN n M d = some p → Rep K mg ro H d v → Dp K H v p
  | 0, _, _, _, e, _ => by cases e
  | n + 1, d, v, p, e, r => by
    have ih := dp_of R n
    cases d with
    | non => cases e; cases (show v = V.non from r); exact .non
    | bl b => cases e; cases (show v = V.bl b from r); exact .bl b
    | int i => cases e; cases (show v = V.int i from r); exact .int i
    | str x => cases e; cases (show v = V.str (tx x) from r); exact .str _
    | tup ds =>
      have e : (mapO (pyN n M) ds).map PyData.tuple = some p := e
      obtain ⟨ps, h1, rfl⟩ := Option.map_eq_some_iff.mp e
      obtain ⟨a, vs, rfl, q, rs⟩ := r
      exact .tup q.sq (dpAll_of ih ds vs ps h1 rs)
    | lst ds =>
      have e : (mapO (pyN n M) ds).map PyData.list = some p := e
      obtain ⟨ps, h1, rfl⟩ := Option.map_eq_some_iff.mp e
      obtain ⟨a, vs, rfl, q, _, rs⟩ := r
      exact .lst (SqL.of q) (dpAll_of ih ds vs ps h1 rs)
    | flst ds =>
      have e : (mapO (pyN n M) ds).map PyData.list = some p := e
      obtain ⟨ps, h1, rfl⟩ := Option.map_eq_some_iff.mp e
      obtain ⟨a, vs, rfl, q, rs⟩ := r
      exact .lst q.sq (dpAll_of ih ds vs ps h1 rs)
    | cell k =>
      have e : (match M[k]? with | some (.lst ds) => (mapO (pyN n M) ds).map PyData.list | _ => none) = some p := e
      cases hm : M[k]? with
      | none => rw [hm] at e; cases e
      | some mo =>
        rw [hm] at e
        cases mo with
        | lst ds =>
          obtain ⟨ps, h1, rfl⟩ := Option.map_eq_some_iff.mp e
          obtain ⟨a, ho, rfl, _, hH, vs, rfl, rs⟩ := R.cellAt r hm
          exact .lst (SqL.of hH) (dpAll_of ih ds vs ps h1 rs)
        | _ => cases e
    | _ => cases e
end

/-! ### == != -/
/-- == of two of none, truth values, ints, texts; not a truth value with an int -/
def eqSc : D → D → Option Bool
  | .non, .non => some true
  | .bl a, .bl b => some (a == b)
  | .int a, .int b => some (a == b)
  | .str a, .str b => some (a == b)
  | .non, .int _ => some false
  | .int _, .non => some false
  | .non, .str _ => some false
  | .str _, .non => some false
  | .non, .bl _ => some false
  | .bl _, .non => some false
  | .int _, .str _ => some false
  | .str _, .int _ => some false
  | .bl _, .str _ => some false
  | .str _, .bl _ => some false
  | _, _ => none
def eqS (neg : Bool) (d e : D) (M : MS) : Res D := match eqSc d e with
  | some b => .ok (.bl (b != neg)) M
  | none => .stuck
def eqP (neg : Bool) (d e : D) (M : MS) : Res D := match pyD M d, pyD M e with
  | some p, some q => if SeqAt.shaped p = true ∧ SeqAt.shaped q = true then .ok (.bl (PyData.eqv p q != neg)) M else .stuck
  | _, _ => .stuck
def eqD (neg : Bool) : D → D → MS → Res D := fun d e M => if (eqSc d e).isSome = true then eqS neg d e M else eqP neg d e M
section
variable {X : Cx}
theorem tx_inj {x y : List Nat} : tx x = tx y ↔ x = y := by
  constructor
  · intro h
    have := congrArg (fun z : Str => z.cps.toList) h
    simpa using this
  · rintro rfl; rfl
theorem eqSc_scal {K : PySem.W.Frag} {mg : Str → Option Value} {ro : Pl} {H : Hp} {d e : D} {x y : V} {b : Bool} (h : eqSc d e = some b) (rx : Rep K mg ro H d x) (ry : Rep K mg ro H e y) : scal x y = true ∧ decide (x = y) = b := by
  cases d <;> cases e <;> first | cases h | skip
  all_goals (cases (show x = _ from rx); cases (show y = _ from ry))
  all_goals refine ⟨rfl, ?_⟩
  all_goals simp [tx_inj]
  all_goals first | rfl | exact Bool.eq_iff_iff.mpr (by simp)
theorem opS_eqS (neg : Bool) : OpS X (compareOp (if neg then .NotEq else .Eq)) (eqS neg) := by
  cases neg with
  | false =>
    refine ⟨_, op_eq, fun ro H M d e x y E Q R rx ry P => ?_⟩
    unfold eqS at P
    split at P
    · rename_i b h
      obtain ⟨h1, h2⟩ := eqSc_scal h rx ry
      exact ⟨h1, by rw [h2]; simpa using PostD.pure (d := .bl (b != false)) R rfl P⟩
    · exact P.elim
  | true =>
    refine ⟨_, op_ne, fun ro H M d e x y E Q R rx ry P => ?_⟩
    unfold eqS at P
    split at P
    · rename_i b h
      obtain ⟨h1, h2⟩ := eqSc_scal h rx ry
      exact ⟨h1, by rw [h2]; simpa using PostD.pure (d := .bl (b != true)) R rfl P⟩
    · exact P.elim
theorem opS_eqP (neg : Bool) (hu : X.A.units + 64 < cLine) : OpS X (compareOp (if neg then .NotEq else .Eq)) (eqP neg) := by
  cases neg with
  | false =>
    refine ⟨_, op_eqD hu, fun ro H M d e x y E Q R rx ry P => ?_⟩
    unfold eqP at P
    split at P
    · rename_i p q h1 h2
      split at P
      · rename_i hs
        exact ⟨p, q, dp_of R 30 d x p h1 rx, dp_of R 30 e y q h2 ry, hs.1, hs.2, by simpa using PostD.pure (d := .bl (PyData.eqv p q != false)) R rfl P⟩
      · exact P.elim
    · exact P.elim
  | true =>
    refine ⟨_, op_neD hu, fun ro H M d e x y E Q R rx ry P => ?_⟩
    unfold eqP at P
    split at P
    · rename_i p q h1 h2
      split at P
      · rename_i hs
        exact ⟨p, q, dp_of R 30 d x p h1 rx, dp_of R 30 e y q h2 ry, hs.1, hs.2, by simpa using PostD.pure (d := .bl (PyData.eqv p q != true)) R rfl P⟩
      · exact P.elim
    · exact P.elim
theorem opS_eq (hu : X.A.units + 64 < cLine) : OpS X (compareOp .Eq) (eqD false) := OpS.or (opS_eqS false) (opS_eqP false hu) fun d e _ => (eqSc d e).isSome
theorem opS_ne (hu : X.A.units + 64 < cLine) : OpS X (compareOp .NotEq) (eqD true) := OpS.or (opS_eqS true) (opS_eqP true hu) fun d e _ => (eqSc d e).isSome
end

/-! ### in -/
def subIn (x y : List Nat) : Bool := !(Builtin.Str.occurrences (tx y) (tx x) 0 (tx y).length 1).isEmpty
def inS (neg : Bool) (d e : D) (M : MS) : Res D := match d, e with
  | .str x, .str y => .ok (.bl (subIn x y != neg)) M
  | _, _ => .stuck
def inP (neg : Bool) (d e : D) (M : MS) : Res D := match pyD M d, pyD M e with
  | some p, some (.list qs) => if SeqAt.shaped p = true ∧ SeqAt.shaped (.list qs) = true then .ok (.bl ((qs.any fun z => PyData.eqv z p) != neg)) M else .stuck
  | _, _ => .stuck
def inD (neg : Bool) : D → D → MS → Res D := fun d e M => if isS2 d e M = true then inS neg d e M else inP neg d e M
section
variable {X : Cx}
theorem opS_inS (neg : Bool) : OpS X (compareOp (if neg then .NotIn else .In)) (inS neg) := by
  cases neg with
  | false =>
    refine ⟨_, op_in_str, fun ro H M d e x y E Q R rx ry P => ?_⟩
    cases d <;> cases e <;> try exact P.elim
    rename_i a b
    cases (show x = V.str (tx a) from rx)
    cases (show y = V.str (tx b) from ry)
    exact ⟨_, _, rfl, rfl, by simpa [subIn] using PostD.pure (d := .bl (subIn a b != false)) R rfl P⟩
  | true =>
    refine ⟨_, op_notin_str, fun ro H M d e x y E Q R rx ry P => ?_⟩
    cases d <;> cases e <;> try exact P.elim
    rename_i a b
    cases (show x = V.str (tx a) from rx)
    cases (show y = V.str (tx b) from ry)
    exact ⟨_, _, rfl, rfl, by simpa [subIn] using PostD.pure (d := .bl (subIn a b != true)) R rfl P⟩
theorem opS_inP (neg : Bool) (hu : X.A.units + 65 < cLine) : OpS X (compareOp (if neg then .NotIn else .In)) (inP neg) := by
  cases neg with
  | false =>
    refine ⟨_, op_inD hu, fun ro H M d e x y E Q R rx ry P => ?_⟩
    unfold inP at P
    split at P
    · rename_i p q h1 h2
      split at P
      · rename_i hs
        exact ⟨p, q, dp_of R 30 d x p h1 rx, dp_of R 30 e y _ h2 ry, hs.1, hs.2, by simpa using PostD.pure (d := .bl ((q.any fun z => PyData.eqv z p) != false)) R rfl P⟩
      · exact P.elim
    · exact P.elim
  | true =>
    refine ⟨_, op_notInD hu, fun ro H M d e x y E Q R rx ry P => ?_⟩
    unfold inP at P
    split at P
    · rename_i p q h1 h2
      split at P
      · rename_i hs
        exact ⟨p, q, dp_of R 30 d x p h1 rx, dp_of R 30 e y _ h2 ry, hs.1, hs.2, by simpa using PostD.pure (d := .bl ((q.any fun z => PyData.eqv z p) != true)) R rfl P⟩
      · exact P.elim
    · exact P.elim
theorem opS_in (hu : X.A.units + 65 < cLine) : OpS X (compareOp .In) (inD false) := OpS.or (opS_inS false) (opS_inP false hu) isS2
theorem opS_notIn (hu : X.A.units + 65 < cLine) : OpS X (compareOp .NotIn) (inD true) := OpS.or (opS_inS true) (opS_inP true hu) isS2
end

/-! ### own operators -/
def isIns (M : MS) (C : String) : D → Bool
  | .obj C' _ _ => decide (C' = C)
  | .cell n => match M[n]? with
    | some (.obj C' _ _) => decide (C' = C)
    | _ => false
  | _ => false
section
variable {X : Cx} {k : Nat} {f c : Addr} {fd : FuncData} {ps : List Str} {F : FM}
theorem ins_is {K : PySem.W.Frag} {mg : Str → Option Value} {ro : Pl} {H : Hp} {M : MS} {C : String} (R : RelS K mg ro M H) {d : D} {v : V} (r : Rep K mg ro H d v) (h : isIns M C d = true) : ∃ a c dx gs, v = .ref a ∧ mg (Str.ofString C) = some (.ref c) ∧ H a = some (.ins c dx gs) := by
  cases d with
  | obj C' ns ds =>
    obtain rfl : C' = C := of_decide_eq_true h
    obtain ⟨a, c', dx, vs, rfl, hmg, hH, _, _, rs⟩ := r
    exact ⟨a, c', dx, _, rfl, hmg, hH⟩
  | cell n =>
    have h : (match M[n]? with | some (.obj C' _ _) => decide (C' = C) | _ => false) = true := h
    cases hm : M[n]? with
    | none => rw [hm] at h; cases h
    | some mo =>
      rw [hm] at h
      cases mo with
      | obj C' ns ds =>
        obtain rfl : C' = C := of_decide_eq_true h
        obtain ⟨a, ho, rfl, _, hH, c', dx, vs, rfl, hmg, _, rs⟩ := R.cellAt r hm
        exact ⟨a, c', dx, _, rfl, hmg, hH⟩
      | _ => cases h
  | _ => cases h
theorem Post.noE {A B : Type} {R : Pl → Hp → A → B → Prop} {K : PySem.W.Frag} {mg : Str → Option Value} {E E' : XK} {ro : Pl} {H : Hp} {Q : B → Hp → Prop} {x : Res A} (h : Post R K mg E ro H Q x.ne) : Post R K mg E' ro H Q x := by
  cases x with
  | ok a M => exact h
  | exc C ns ds M => exact h.elim
  | stuck => exact h.elim
/-- e in o, o's class has its own __contains__ -/
def inO (C : String) (F : FM) (neg : Bool) (d e : D) (M : MS) : Res D := if isIns M C e = true then (F [e, d] M).ne.bind fun r M1 => match r with
  | .bl b => .ok (.bl (b != neg)) M1
  | _ => .stuck else .stuck
theorem truthy_bl {M : Model} {A : Around} {E : Value → Shared → Prop} {s : Shared} {b : Bool} {Q : Bool → Shared → Prop} (h : Q b s) : wpAny M A (truthy (.bool b)) Q E s := by
  unfold truthy
  exact wpAny_pure h
theorem opS_inO {C : String} (neg : Bool) (hc : X.mg (Str.ofString C) = some (.ref c)) (hs : PySem.W.findIn X.K (.ref c) "__contains__" = some (some (.ref f))) (hf : PySem.W.isFn X.K (.ref f) = true) (hb : Binds X.K fd ps []) (hF : DOk X.prog X.w X.K X.mg X.base k f fd ps F)
    (hr : Room k X.A) (hps : ps.length = 2 := by rfl) : OpS X (compareOp (if neg then .NotIn else .In)) (inO C F neg) := by
  refine ⟨fun x y H Q => ∃ ro M d e, RelS X.K X.mg ro M H ∧ Rep X.K X.mg ro H d x ∧ Rep X.K X.mg ro H e y ∧ PostD X.K X.mg (fun _ _ _ => False) ro H Q (inO C F neg d e M), ?_, fun ro H M d e x y E Q R rx ry P => ⟨ro, M, d, e, R, rx, ry, ?_⟩⟩
  · rintro pins s σ H x y v u Q I rx ry ⟨ro, M, d, e, R, qx, qy, P⟩
    unfold inO at P
    split at P
    · rename_i hi
      obtain ⟨a, c', dx, gs, rfl, hmg, hH⟩ := ins_is R qy hi
      rw [hc] at hmg; cases hmg
      obtain rfl : u = Value.ref a := ry
      obtain ⟨mA, J, _⟩ := ins_get I.hok hH
      obtain ⟨od, J, _⟩ := J.look
      obtain ⟨m, hFr⟩ := I.fr
      have r2 : Vals [V.ref a, x] [Value.ref a, v] := .cons rfl (.cons rx .nil)
      have rs : Reps X.K X.mg ro H [e, d] [V.ref a, x] := ⟨_, _, rfl, qy, Reps.one qx⟩
      have P2 : PostD X.K X.mg (fun _ _ _ => False) ro H (fun z H' => ∃ b, z = .bl b ∧ Q (.bl (b != neg)) H') (F [e, d] M) := by
        refine (Post.noE (E := fun _ _ _ => False) ?_)
        cases eF : F [e, d] M with
        | stuck => rw [eF] at P; exact P
        | exc C' ns es M' => rw [eF] at P; exact P.elim
        | ok r M' =>
          rw [eF, Res.ne_ok, Res.bind_ok] at P
          cases r with
          | bl b =>
            intro ro' H' z R' P' rz
            cases (show z = V.bl b from rz)
            exact ⟨b, rfl, P ro' H' _ R' P' rfl⟩
          | _ => exact P.elim
      have core : wpAny (model X.prog X.w) X.A (call (.ref f) [.ref a, v]) (EP X pins σ fun z H' => ∃ b, z = .bl b ∧ Q (.bl (b != neg)) H') X.xe s :=
        run_DA (W := W0) (args := ⟨[.ref a, v], []⟩) (us := [.ref a, v]) hF rfl hr takes0 (by
          have := hb s [.ref a, v] I.kIn (by simp [hps])
          simpa using this) I r2 R rs (by rw [hps]; rfl) P2
      cases neg with
      | false =>
        refine PySem.W.in_K hFr I.ok.mod.kin J hs hf (wpAny_mono core (fun r s' ⟨z, H', I', rz, b, ez, q⟩ => ?_) fun _ _ x => x)
        subst ez
        cases (show r = Value.bool b from rz)
        exact truthy_bl ⟨.bl b, H', I', rfl, by simpa using q⟩
      | true =>
        refine PySem.W.notIn_K hFr I.ok.mod.kin J hs hf (wpAny_mono core (fun r s' ⟨z, H', I', rz, b, ez, q⟩ => ?_) fun _ _ x => x)
        subst ez
        cases (show r = Value.bool b from rz)
        exact truthy_bl ⟨.bl (!b), H', I', rfl, by simpa using q⟩
    · exact P.elim
  · unfold inO at P ⊢
    split
    · rename_i hi
      rw [if_pos hi] at P
      cases eF : F [e, d] M with
      | stuck => rw [eF] at P; exact P
      | exc C' ns es M' => rw [eF] at P; exact P
      | ok r M' =>
        rw [eF] at P
        rw [Res.ne_ok, Res.bind_ok] at P ⊢
        cases r <;> exact P
    · rename_i hi
      rw [if_neg hi] at P; exact P
end
end DL

/-! DL: isinstance, methods of built-in types, aug, defs with defaults. -/
namespace DL
open PySem PySem.Spec L2
open PyProof.Rows hiding St

/-! ### isinstance -/
inductive TN where
  | b (n : String)
  | c (C : String)
def tnD (M : MS) : D → Option TN
  | .non => some (.b "NoneType")
  | .bl _ => some (.b "bool")
  | .int _ => some (.b "int")
  | .str _ => some (.b "str")
  | .tup _ => some (.b "tuple")
  | .lst _ => some (.b "list")
  | .flst _ => some (.b "list")
  | .dic _ _ => some (.b "dict")
  | .obj C _ _ => some (.c C)
  | .cell k => match M[k]? with
    | some (.lst _) => some (.b "list")
    | some (.dic _ _) => some (.b "dict")
    | some (.obj C _ _) => some (.c C)
    | some (.tab ..) => none
    | none => none
  | _ => none
def tnC : D → Option TN
  | .ty n => some (.b n)
  | .glo C => some (.c C)
  | _ => none
def TNv (mg : Str → Option Value) : TN → Value → Prop
  | .b n, v => v = .type n
  | .c C, v => ∃ c, mg (Str.ofString C) = some (.ref c) ∧ v = .ref c
/-- what isinstance asks of an own class -/
structure IsC (K : PySem.W.Frag) (C : Addr) : Prop where
  cl : Cls K C
  ha : PySem.W.findIn K (.ref C) "__class__" = some (some (.builtin "object.__class__"))
  hn : PySem.W.specialIn K (.builtin "object.__class__") "__get__" = some (some (.builtin "getset_descriptor.__get__"))
  htk : PySem.W.takesIn K (.builtin "object.__class__") = some true
  hm : PySem.W.mroIn K C (.type "object") = some true
def okTN (cs : List String) : TN → Bool
  | .c C => decide (C ∈ cs)
  | .b _ => true
def isiF (cs : List String) (tbl : TN → TN → Option Bool) (ds : List D) (M : MS) : Res D := match ds with
  | [d, t] => (match tnD M d, tnC t with
    | some a, some b => if okTN cs a = true then (match tbl a b with
      | some k => .ok (.bl k) M
      | none => .stuck) else .stuck
    | _, _ => .stuck)
  | _ => .stuck
/-- two built-in types -/
def tblB : TN → TN → Option Bool
  | .b a, .b n => kitB a n
  | _, _ => none
structure TblOk (K : PySem.W.Frag) (mg : Str → Option Value) (tbl : TN → TN → Option Bool) : Prop where
  ok : ∀ a b k, tbl a b = some k → ∃ u, TNv mg b u ∧ ∀ t, TNv mg a t → PySem.W.kitOne K t u = some k
theorem tblB_ok {K : PySem.W.Frag} {mg : Str → Option Value} : TblOk K mg tblB := ⟨fun a b k h => by
  cases a <;> cases b <;> try cases h
  exact ⟨_, rfl, fun t ht => by cases ht; exact kit_ty h⟩⟩
section
variable {X : Cx}
theorem rd_tyL {H : Hp} {K : PySem.W.Frag} {a : Addr} {vs : List V} (h : Rd H a (.lst vs)) : TyX K H (.ref a) (.type "list") := by
  rcases h with h | ⟨o, h⟩
  · exact .base (.lst h)
  · exact .base (.frz h)
theorem ty_of {K : PySem.W.Frag} {mg : Str → Option Value} {ro : Pl} {H : Hp} {M : MS} {cs : List String} (hcs : ∀ C c, C ∈ cs → mg (Str.ofString C) = some (.ref c) → IsC K c) (R : RelS K mg ro M H) {d : D} {v : V} (r : Rep K mg ro H d v) {a : TN} (h : tnD M d = some a)
    (hc : okTN cs a = true) : ∃ t, TyX K H v t ∧ TNv mg a t := by
  have ins : ∀ {C : String} {x c dx : Addr} {gs : List (Str × V)}, C ∈ cs → mg (Str.ofString C) = some (.ref c) → H x = some (.ins c dx gs) → ∃ t, TyX K H (.ref x) t ∧ TNv mg (.c C) t := fun {C x c dx gs} hC hmg hH => by
    have i := hcs C c hC hmg
    exact ⟨.ref c, .base (.ins hH i.cl i.ha i.hn i.htk i.hm), c, hmg, rfl⟩
  cases d with
  | non => cases h; cases (show v = V.non from r); exact ⟨_, .base .non, rfl⟩
  | bl b => cases h; cases (show v = V.bl b from r); exact ⟨_, .base (.bl _), rfl⟩
  | int i => cases h; cases (show v = V.int i from r); exact ⟨_, .base (.int _), rfl⟩
  | str x => cases h; cases (show v = V.str (tx x) from r); exact ⟨_, .base (.str _), rfl⟩
  | tup ds =>
    cases h
    obtain ⟨p, vs, rfl, q, rs⟩ := r
    rcases q with ⟨q, _⟩ | ⟨o, its, n, e1, e2, e3⟩
    · rcases q with q | ⟨o, q⟩
      · exact ⟨_, .base (.tup q), rfl⟩
      · exact ⟨_, .fTuple q, rfl⟩
    · exact ⟨_, .kTuple e1 e2, rfl⟩
  | lst ds =>
    cases h
    obtain ⟨p, vs, rfl, q, _, rs⟩ := r
    exact ⟨_, .base (.lst q), rfl⟩
  | flst ds =>
    cases h
    obtain ⟨p, vs, rfl, q, rs⟩ := r
    rcases q with ⟨q, _⟩ | ⟨o, its, n, e1, e2, e3⟩
    · exact ⟨_, rd_tyL q, rfl⟩
    · exact ⟨_, .kList e1 e2, rfl⟩
  | dic ks ds =>
    cases h
    obtain ⟨p, kl, vs, rfl, g, l, q, _, rs⟩ := r
    exact ⟨_, .base (.dK q), rfl⟩
  | obj C ns ds =>
    cases h
    obtain ⟨p, c, dx, vs, rfl, g, q, _, l, rs⟩ := r
    exact ins (of_decide_eq_true hc) g q
  | cell k =>
    have h : (match M[k]? with | some (.lst _) => some (TN.b "list") | some (.dic _ _) => some (.b "dict") | some (.obj C _ _) => some (.c C) | some (.tab ..) => none | none => none) = some a := h
    cases hm : M[k]? with
    | none => rw [hm] at h; cases h
    | some mo =>
      rw [hm] at h
      obtain ⟨p, ho, rfl, _, hH, m⟩ := R.cellAt r hm
      cases mo with
      | lst ds => cases h; obtain ⟨vs, rfl, _⟩ := m; exact ⟨_, .base (.lst hH), rfl⟩
      | dic ks ds => cases h; obtain ⟨kl, vs, rfl, _⟩ := m; exact ⟨_, .base (.dK hH), rfl⟩
      | obj C ns ds => cases h; obtain ⟨c, dx, vs, rfl, g, _⟩ := m; exact ins (of_decide_eq_true hc) g hH
      | tab i C m => cases h
  | _ => cases h
theorem cls_of {K : PySem.W.Frag} {mg : Str → Option Value} {ro : Pl} {H : Hp} {d : D} {v : V} (r : Rep K mg ro H d v) {b : TN} (h : tnC d = some b) {u : Value} (hu : TNv mg b u) : ClsV v u := by
  cases d with
  | ty n => cases h; cases (show v = V.ty n from r); cases (show u = .type n from hu); exact .ty n
  | glo C =>
    cases h
    obtain ⟨a, rfl, e⟩ := r
    obtain ⟨c, e', rfl⟩ := hu
    rw [e] at e'; cases e'
    exact .own a
  | _ => cases h
theorem callS_isi {cs : List String} {tbl : TN → TN → Option Bool} (hcs : ∀ C c, C ∈ cs → X.mg (Str.ofString C) = some (.ref c) → IsC X.K c) (ht : TblOk X.K X.mg tbl) : CallS X (.builtin "isinstance") (isiF cs tbl) := by
  refine ⟨_, call_isi, fun ro H M ds xs E Q R rs P => ?_⟩
  unfold isiF at P
  split at P
  · rename_i d t
    obtain ⟨x, y, rfl, rx, ry⟩ := reps2 rs
    split at P
    · rename_i a b h1 h2
      split at P
      · rename_i hc
        split at P
        · rename_i k hk
          obtain ⟨u, hu, hkit⟩ := ht.ok a b k hk
          obtain ⟨t', ty, tn⟩ := ty_of hcs R rx h1 hc
          exact ⟨x, y, t', u, k, rfl, cls_of ry h2 hu, ty, hkit t' tn, PostD.pure (d := .bl k) R rfl P⟩
        · exact P.elim
      · exact P.elim
    · exact P.elim
  · exact P.elim
theorem callS_isiB : CallS X (.builtin "isinstance") (isiF [] tblB) := callS_isi (fun C c h => by cases h) tblB_ok
/-- a built-in type, a built-in function as a value -/
theorem de_ty {W : WX} {x : Str} {pos : Pos} {T : String} (hg : Gl X x) (hm : X.mg x = none) (hv : bootBuiltins x = some (.type T)) (hn : x ≠ "__name__" := by decide) (hd : (x == ("__debug__" : Str)) = false := by decide) : DE X W (.Name x pos) (constE (.ty T)) :=
  de_constV (pe_bltn (v := .ty T) hg hm hv rfl hn hd) fun _ _ => rfl
end

/-! ### methods of built-in types -/
def tyvD (M : MS) (T : String) : D → Bool
  | .str _ => decide (T = "str")
  | .int _ => decide (T = "int")
  | .lst _ => decide (T = "list")
  | .flst _ => decide (T = "list")
  | .dic _ _ => decide (T = "dict")
  | .cell k => match M[k]? with
    | some (.lst _) => decide (T = "list")
    | some (.dic _ _) => decide (T = "dict")
    | _ => false
  | _ => false
def bmE (T : String) (f : D → List D → MS → Res D) (mo : ME) (ma : MA) : ME := fun sd M => (mo sd M).bind fun d M1 => if tyvD M1 T d = true then (ma sd M1).bind fun ds M2 => f d ds M2 else .stuck
section
variable {X : Cx} {W : WX} {o e : Expr} {es : List Expr} {mo : ME} {ma : MA} {name : Str} {apos cpos : Pos} {T id : String} {f : D → List D → MS → Res D}
theorem tyv_of {K : PySem.W.Frag} {mg : Str → Option Value} {ro : Pl} {H : Hp} {M : MS} (R : RelS K mg ro M H) {d : D} {v : V} (r : Rep K mg ro H d v) (h : tyvD M T d = true) : tyV K T v H := by
  cases d with
  | str x =>
    cases (show v = V.str (tx x) from r)
    have h : T = "str" := of_decide_eq_true h
    exact h
  | int i =>
    cases (show v = V.int i from r)
    have h : T = "int" := of_decide_eq_true h
    exact h
  | lst ds =>
    obtain ⟨p, vs, rfl, q, _, rs⟩ := r
    exact .inl ⟨of_decide_eq_true h, vs, SqL.of q⟩
  | flst ds =>
    obtain ⟨p, vs, rfl, q, rs⟩ := r
    exact .inl ⟨of_decide_eq_true h, vs, q.sq⟩
  | dic ks ds =>
    obtain ⟨p, kl, vs, rfl, g, l, q, _, rs⟩ := r
    exact .inr (.inr (.inl ⟨of_decide_eq_true h, .inl ⟨_, q⟩⟩))
  | cell k =>
    have h : (match M[k]? with | some (.lst _) => decide (T = "list") | some (.dic _ _) => decide (T = "dict") | _ => false) = true := h
    cases hm : M[k]? with
    | none => rw [hm] at h; cases h
    | some mo =>
      rw [hm] at h
      obtain ⟨p, ho, rfl, _, hH, m⟩ := R.cellAt r hm
      cases mo with
      | lst ds => obtain ⟨vs, rfl, _⟩ := m; exact .inl ⟨of_decide_eq_true h, vs, SqL.of hH⟩
      | dic ks ds => obtain ⟨kl, vs, rfl, _⟩ := m; exact .inr (.inr (.inl ⟨of_decide_eq_true h, .inl ⟨_, hH⟩⟩))
      | obj C ns ds => cases h
      | tab i C m => cases h
  | _ => cases h
theorem de_bm0 (hf : MtS X T id f) (pa : PlainAttrs T) (slot : Slot T name id) (hty : typeOf (.builtin id) = pure (.type "method_descriptor")) (ho : DE X W o mo)
    (hbase : attributeBase o name X.env (eval o X.env) = eval o X.env := by rfl) (hline : (apos.endLine == cpos.line) = true := by rfl) : DE X W (.Call (.Attribute o name apos) [] [] cpos) (bmE T f mo nilA) := by
  obtain ⟨r, h1, h2⟩ := hf
  refine ⟨⟨fun pins s st H Q I q => (pe_bm0 pa slot hty h1 ho.pe hbase hline).run pins s st H Q I ?_⟩⟩
  obtain ⟨ro, sd, M, R, S, P⟩ := q
  refine ⟨ro, sd, M, R, S, (Post.bind P).imp fun x H1 ⟨ro1, M1, d, R1, P1, r1, q1⟩ => ?_⟩
  split at q1
  · rename_i ht
    exact ⟨tyv_of R1 r1 ht, h2 ro1 H1 M1 d [] x [] _ Q R1 r1 rfl q1⟩
  · exact q1.elim
theorem de_bm (hf : MtS X T id f) (pa : PlainAttrs T) (slot : Slot T name id) (hty : typeOf (.builtin id) = pure (.type "method_descriptor")) (ho : DE X W o mo) (ha : DA X W (e :: es) ma)
    (hbase : attributeBase o name X.env (eval o X.env) = eval o X.env := by rfl)
    (hfew : ((backTo cpos (starEach (e :: es) X.env)).all (fun x => !x.1) && (backToKw cpos (keywordEach [] X.env)).all (fun x => x.1.isSome)
      && decide ((e :: es).length + ([] : List Keyword).length + (if ([] : List Keyword).isEmpty then 0 else 1) < 30)) = true := by rfl)
    (hline : (apos.endLine == cpos.line) = true := by rfl) (hs : starEach (e :: es) X.env = (false, eval e X.env) :: starEach es X.env := by rfl) (hplain : (backTo cpos (starEach es X.env)).any (·.1) = false := by rfl) :
    DE X W (.Call (.Attribute o name apos) (e :: es) [] cpos) (bmE T f mo ma) := by
  obtain ⟨r, h1, h2⟩ := hf
  refine ⟨⟨fun pins s st H Q I q => (pe_bm pa slot hty h1 ho.pe ha.pa hbase hfew hline hs hplain).run pins s st H Q I ?_⟩⟩
  obtain ⟨ro, sd, M, R, S, P⟩ := q
  refine ⟨ro, sd, M, R, S, (Post.bind P).imp fun x H1 ⟨ro1, M1, d, R1, P1, r1, q1⟩ => ?_⟩
  split at q1
  · rename_i ht
    refine ⟨tyv_of R1 r1 ht, ro1, sd, M1, R1, S.mono P1, (Post.bind q1).imp fun xs H2 ⟨ro2, M2, ds, R2, P2, r2, q2⟩ => ?_⟩
    exact h2 ro2 H2 M2 d ds x xs _ Q R2 (Rep.mono P2 _ _ r1) r2 q2
  · exact q1.elim
end
/-! texts among data -/
def strsOf : List D → Option (List (List Nat))
  | [] => some []
  | .str x :: r => (strsOf r).map (x :: ·)
  | _ => none
theorem strsOf_eq : ∀ {ds : List D} {xs : List (List Nat)}, strsOf ds = some xs → ds = xs.map D.str
  | [], xs, h => by cases h; rfl
  | d :: ds, xs, h => by
    cases d with
    | str x =>
      have h : (strsOf ds).map (x :: ·) = some xs := h
      obtain ⟨ys, h1, rfl⟩ := Option.map_eq_some_iff.mp h
      rw [strsOf_eq h1]; rfl
    | _ => cases h
@[simp] theorem strsOf_map (xs : List (List Nat)) : strsOf (xs.map D.str) = some xs := by
  induction xs with
  | nil => rfl
  | cons x xs ih => simp [strsOf, ih]
def joinF (d : D) (ds : List D) (M : MS) : Res D := match d, ds with
  | .str a, [e] => (match (seqOf M e).bind strsOf with
    | some xs => if (xs.map List.length).sum + xs.length * a.length ≤ 1000000 then .ok (.str (TL.joinL a xs)) M else .stuck
    | none => .stuck)
  | _, _ => .stuck
def appendF (d : D) (ds : List D) (M : MS) : Res D := match d, ds with
  | .cell n, [e] => (match M[n]? with
    | some (.lst xs) => if xs.length < 1000000 then .ok .non (M.set n (.lst (xs ++ [e]))) else .stuck
    | _ => .stuck)
  | _, _ => .stuck
def popF (d : D) (ds : List D) (M : MS) : Res D := match d, ds with
  | .cell n, [] => (match M[n]? with
    | some (.lst xs) => (match xs[xs.length - 1]? with
      | some e => .ok e (M.set n (.lst xs.dropLast))
      | none => .stuck)
    | _ => .stuck)
  | _, _ => .stuck
def popAtF (d : D) (ds : List D) (M : MS) : Res D := match d, ds with
  | .cell n, [.int i] => (match M[n]? with
    | some (.lst xs) => if -1000000 ≤ i ∧ i ≤ 1000000 then (match seqIndex? i xs.length with
      | some k => (match xs[k]? with
        | some e => .ok e (M.set n (.lst (xs.eraseIdx k)))
        | none => .stuck)
      | none => .stuck) else .stuck
    | _ => .stuck)
  | _, _ => .stuck
def clearF (d : D) (ds : List D) (M : MS) : Res D := match d, ds with
  | .cell n, [] => (match M[n]? with
    | some (.lst xs) => .ok .non (M.set n (.lst []))
    | _ => .stuck)
  | _, _ => .stuck
def str1F (g : List Nat → List Nat → D) (d : D) (ds : List D) (M : MS) : Res D := match d, ds with
  | .str a, [.str b] => .ok (g a b) M
  | _, _ => .stuck
section
variable {X : Cx}
theorem reps0 {K : PySem.W.Frag} {mg : Str → Option Value} {ro : Pl} {H : Hp} {vs : List V} (h : Reps K mg ro H [] vs) : vs = [] := h
theorem tl_tx (x : List Nat) : (tx x).cps.toList = x := by simp
theorem mtS_join : MtS X "str" "str.join" joinF := by
  refine ⟨_, mt_join, fun ro H M d ds x xs E Q R r rs P => ?_⟩
  unfold joinF at P
  split at P
  · rename_i a e
    split at P
    · rename_i ys h
      split at P
      · rename_i hl
        cases (show x = V.str (tx a) from r)
        obtain ⟨v, rfl, rv⟩ := reps1 rs
        obtain ⟨es, h1, h2⟩ := Option.bind_eq_some_iff.mp h
        obtain ⟨p, vs, rfl, hq, q⟩ := seq_of R rv h1
        rw [strsOf_eq h2] at q
        have e := Reps.strs q
        subst e
        have e2 : Txt.join (tx a) (ys.map tx) = tx (TL.joinL a ys) := by
          have h3 := TL.tl_join (tx a) (ys.map tx)
          have h4 : TL.tl (tx a) = a := by unfold TL.tl; simp
          have h5 : (ys.map tx).map TL.tl = ys := by
            rw [List.map_map]
            conv => rhs; rw [← List.map_id ys]
            apply List.map_congr_left
            intro z _
            show TL.tl (tx z) = z
            unfold TL.tl; simp
          rw [h4, h5] at h3
          have h6 : ∀ z : Str, tx (TL.tl z) = z := fun z => by unfold TL.tl; simp [tx]
          rw [← h3, h6, TL.join_eq]
        refine ⟨tx a, p, ys.map tx, rfl, rfl, hq, ?_, ?_⟩
        · have e3 : (ys.map tx).map (fun z => z.length) = ys.map List.length := by
            rw [List.map_map]
            apply List.map_congr_left
            intro z _
            simp [Str.length]
          rw [e3, List.length_map]
          simp only [Str.length, List.size_toArray]
          omega
        · rw [e2]
          exact PostD.pure (d := .str (TL.joinL a ys)) R rfl P
      · exact P.elim
    · exact P.elim
  · exact P.elim
theorem mtS_append : MtS X "list" "list.append" appendF := by
  refine ⟨_, mt_append, fun ro H M d ds x xs E Q R r rs P => ?_⟩
  unfold appendF at P
  split at P
  · rename_i n e
    split at P
    · rename_i ys hm
      split at P
      · rename_i hl
        obtain ⟨v, rfl, rv⟩ := reps1 rs
        obtain ⟨a, ho, rfl, g, h, vs, rfl, q⟩ := R.cellAt r hm
        obtain ⟨R', P'⟩ := R.change (o := .lst (vs ++ [v])) (mo := .lst (ys ++ [e])) g ⟨_, rfl, q.append (Reps.one rv)⟩
        exact ⟨a, vs, v, rfl, rfl, h, by rw [← q.len]; exact line_lt hl, P ro _ _ R' P' rfl⟩
      · exact P.elim
    · exact P.elim
  · exact P.elim
theorem mtS_pop : MtS X "list" "list.pop" popF := by
  refine ⟨_, mt_pop, fun ro H M d ds x xs E Q R r rs P => ?_⟩
  unfold popF at P
  split at P
  · rename_i n
    split at P
    · rename_i ys hm
      split at P
      · rename_i e he
        have e0 := reps0 rs
        subst e0
        obtain ⟨a, ho, rfl, g, h, vs, rfl, q⟩ := R.cellAt r hm
        obtain ⟨y, hy, ry⟩ := q.get he
        obtain ⟨R', P'⟩ := R.change (o := .lst vs.dropLast) (mo := .lst ys.dropLast) g ⟨_, rfl, q.dropLast⟩
        exact ⟨a, vs, y, rfl, rfl, h, by rw [← q.len]; exact hy, P ro _ _ R' P' (Rep.mono P' _ _ ry)⟩
      · exact P.elim
    · exact P.elim
  · exact P.elim
theorem mtS_popAt : MtS X "list" "list.pop" popAtF := by
  refine ⟨_, mt_popAt, fun ro H M d ds x xs E Q R r rs P => ?_⟩
  unfold popAtF at P
  split at P
  · rename_i n i
    split at P
    · rename_i ys hm
      split at P
      · rename_i hi
        split at P
        · rename_i k hk
          split at P
          · rename_i e he
            obtain ⟨v, rfl, rv⟩ := reps1 rs
            cases (show v = V.int i from rv)
            obtain ⟨a, ho, rfl, g, h, vs, rfl, q⟩ := R.cellAt r hm
            obtain ⟨y, hy, ry⟩ := q.get he
            obtain ⟨R', P'⟩ := R.change (o := .lst (vs.eraseIdx k)) (mo := .lst (ys.eraseIdx k)) g ⟨_, rfl, q.eraseIdx k⟩
            exact ⟨a, vs, i, k, y, rfl, rfl, h, by omega, by omega, by rw [← q.len]; exact hk, hy, P ro _ _ R' P' (Rep.mono P' _ _ ry)⟩
          · exact P.elim
        · exact P.elim
      · exact P.elim
    · exact P.elim
  · exact P.elim
theorem mtS_clear : MtS X "list" "list.clear" clearF := by
  refine ⟨_, mt_clear, fun ro H M d ds x xs E Q R r rs P => ?_⟩
  unfold clearF at P
  split at P
  · rename_i n
    split at P
    · rename_i ys hm
      have e0 := reps0 rs
      subst e0
      obtain ⟨a, ho, rfl, g, h, vs, rfl, q⟩ := R.cellAt r hm
      obtain ⟨R', P'⟩ := R.change (o := .lst []) (mo := .lst []) g ⟨[], rfl, rfl⟩
      exact ⟨a, vs, rfl, rfl, h, P ro _ _ R' P' rfl⟩
    · exact P.elim
  · exact P.elim
end

/-! ### name op= e -/
def IopS (X : Cx) (op : Operator) (f : D → D → MS → Res D) : Prop := OpS X (inplaceOp op) f
section
variable {X : Cx} {W : WX} {e : Expr} {m : ME} {pos pos' : Pos} {x : Str} {op : Operator}
theorem iopS_addI : OpS X (inplaceOp .Add) addI := opS_int0 (k := fun i j => .int (i + j)) iop_add (fun _ _ _ _ => rfl) fun d e M h => by
  cases d <;> cases e <;> first | exact absurd rfl h | exact ⟨_, _, rfl, rfl, rfl⟩
theorem iopS_addS : OpS X (inplaceOp .Add) addS := by
  refine ⟨_, iop_add_str, fun ro H M d e x y E Q R rx ry P => ?_⟩
  cases d <;> cases e <;> try exact P.elim
  rename_i a b
  cases (show x = V.str (tx a) from rx)
  cases (show y = V.str (tx b) from ry)
  simp only [addS] at P
  split at P
  · rename_i hl
    refine ⟨_, _, rfl, rfl, by simp only [Str.length, List.size_toArray]; exact line_le hl, ?_⟩
    rw [Str.tx_append]
    exact PostD.pure (d := .str (a ++ b)) R rfl P
  · exact P.elim
def iaddD : D → D → MS → Res D := fun d e M => if isI2 d e M = true then addI d e M else addS d e M
theorem iopS_add : OpS X (inplaceOp .Add) iaddD := OpS.or iopS_addI iopS_addS isI2
theorem ds_aug {i : Nat} {f : D → D → MS → Res D} (ho : OpS X (inplaceOp op) f) (he : DE X W e m) (hN : X.N.Nodup) (hi : X.N[i]? = some x := by rfl) (hx : Loc X.env.scope x := by first | exact Or.inl rfl | exact Or.inr rfl)
    (hf : X.fn x = true ∨ X.env.scope.names.lookup x = some .local := by first | exact .inl rfl | exact .inr rfl | assumption) : DS X W (.AugAssign (.Name x pos') op e pos) (augS i f m) := by
  obtain ⟨r, h1, h2⟩ := ho
  refine ⟨⟨fun pins s st H D0 I q => (ps_aug hN hi hx he.pe h1 hf).run pins s st H D0 I ?_⟩⟩
  obtain ⟨ro, sd, M, R, S, P⟩ := q
  unfold augS nameE at P
  split at P
  · rename_i d e
    obtain ⟨v, e', rv⟩ := S.2 i d e
    have P : PostS X.K X.mg W ro H D0 (SRes.ofE (m sd M) sd fun y M2 => SRes.ofE (f d y M2) sd fun d M3 => .nx (sd.set i (some d)) M3) := P
    refine ⟨v, e', ro, sd, M, R, S, (PostS.ofE P S).imp fun y H1 ⟨ro1, M1, d', R1, P1, r1, q1⟩ => ?_⟩
    refine h2 ro1 H1 M1 d d' v y (fun c d H' => W c d st H') _ R1 (Rep.mono P1 _ _ rv) r1 ((PostS.ofE q1 (S.mono P1)).imp fun z H2 ⟨ro2, M2, g, R2, P2, r2, q2⟩ => ?_)
    exact q2 ro2 H2 _ R2 (Pres.refl _ _) (((S.mono P1).mono P2).set r2)
  · exact P.elim
end

/-! ### defs, with defaults -/
section
variable {P : Program} {w : World} {K : PySem.W.Frag} {mg : Str → Option Value} {base : Heap}
abbrev FnP (K : PySem.W.Frag) (x qual : Str) (st : Stmt) (dvs : List V) (kws : List (Str × V)) (f : Addr) (fd : FuncData) : Prop := FunD K x qual (defArgs st) (defBody st) (defScope st) dvs kws f fd
theorem funD_ok {x qual : Str} {st : Stmt} {dvs : List V} {kws : List (Str × V)} {f : Addr} {fd : FuncData} {N ps : List Str} {k : Nat} {body : MST} (Fn : FnP K x qual st dvs kws f fd) (S : FnScope N ps (defScope st))
    (hbody : ∀ (cdv : Value) (A : Around) (outer : List Env) (s : Shared) (H : Hp) (E : XK), Room k (A.deeper (envOfC qual (defScope st) s.heap.objs.size f cdv)) →
      Ctx (cxOf (L2.CX P w) P w K mg base N qual (defScope st) f cdv A outer s H E) (fun cls d _ H' => E cls d H') →
      DSs (cxOf (L2.CX P w) P w K mg base N qual (defScope st) f cdv A outer s H E) (fun cls d _ H' => E cls d H') (defBody st) body) : DOk P w K mg base (k + 1) f fd ps (runD N.length body) := by
  refine Fn.ok S (fun vs H Q E h => h.1) fun cdv A outer s H vs Q E hr h => ?_
  obtain ⟨hl, ro, ds, M, R, rs, Po⟩ := h
  have hc : Ctx (cxOf (L2.CX P w) P w K mg base N qual (defScope st) f cdv A outer s H E) (fun cls d _ H' => E cls d H') := ⟨takes_of rfl rfl rfl rfl, passes_of rfl, rfl⟩
  refine ⟨_, (hbody cdv A outer s H E hr hc).ps, ro, startD N.length ds, M, R, repSt_start rs, ?_⟩
  unfold runD at Po
  cases e : body (startD N.length ds) M with
  | nx sd M' => rw [e] at Po; exact fun ro' H' st rs q r => Po ro' H' .non rs q rfl
  | ret d M' => rw [e] at Po; exact Po
  | exc C ns ds' sd M' => rw [e] at Po; exact fun ro' H' st cls dd rs q _ r => Po ro' H' cls dd rs q r
  | brk sd M' => rw [e] at Po; exact Po.elim
  | ct sd M' => rw [e] at Po; exact Po.elim
  | stuck => rw [e] at Po; exact Po
theorem DOk.imp {k : Nat} {f : Addr} {fd : FuncData} {ps : List Str} {F G : FM} (h : DOk P w K mg base k f fd ps F) (hG : ∀ (ro : Pl) (H : Hp) (E : XK) (Q : VK) (ds : List D) (M : MS), RelS K mg ro M H → PostD K mg E ro H Q (G ds M) → PostD K mg E ro H Q (F ds M)) : DOk P w K mg base k f fd ps G :=
  FnOk.imp h fun vs H Q E ⟨hl, ro, ds, M, R, rs, Po⟩ => ⟨hl, ro, ds, M, R, rs, hG ro H E Q ds M R Po⟩
/-- where G says something, F says it too -/
theorem DOk.congr {k : Nat} {f : Addr} {fd : FuncData} {ps : List Str} {F G : FM} (h : DOk P w K mg base k f fd ps F) (hG : ∀ ds M, G ds M = .stuck ∨ F ds M = G ds M) : DOk P w K mg base k f fd ps G :=
  h.imp fun ro H E Q ds M R Po => by
    rcases hG ds M with e | e
    · rw [e] at Po; exact Po.elim
    · rw [e]; exact Po
/-- its new changeable places are written out at its end -/
noncomputable def clF (F : FM) : FM := fun ds M => closeR M (F ds M)
theorem DOk.close {k : Nat} {f : Addr} {fd : FuncData} {ps : List Str} {F : FM} (h : DOk P w K mg base k f fd ps F) : DOk P w K mg base k f fd ps (clF F) := h.imp fun ro H E Q ds M R Po => Post.close R Po
/-- what fills up -/
abbrev DflK (K : PySem.W.Frag) (mg : Str → Option Value) (fd : FuncData) (ps : List Str) (dfl : List D) : Prop := ∃ (dvs : List V) (dV : List Value), Binds K fd ps dV ∧ Vals dvs dV ∧ ∀ ro H, Reps K mg ro H dfl dvs
theorem dflK_none {fd : FuncData} {ps : List Str} (h : Binds K fd ps []) : DflK K mg fd ps [] := ⟨[], [], h, .nil, fun _ _ => rfl⟩
theorem dflK_of {fd : FuncData} {ps : List Str} {dvs : List V} {dfl : List D} (h : ∃ ds, Vals dvs ds ∧ Binds K fd ps ds) (hd : ∀ ro H, Reps K mg ro H dfl dvs) : DflK K mg fd ps dfl := by
  obtain ⟨ds, h1, h2⟩ := h
  exact ⟨dvs, ds, h2, h1, hd⟩
end
end DL

/-! DL: the ends: how a law is read from its function over data. -/
namespace DL
open PySem PySem.Spec L2
open PyProof.Rows hiding St

section
variable {K : PySem.W.Frag} {mg : Str → Option Value}
theorem room65 {k : Nat} {A : Around} (r : Room k A) : A.units + 65 < cLine := by have := r.un; omega
abbrev KwBK (K : PySem.W.Frag) (mg : Str → Option Value) (fd : FuncData) (ps : List Str) (n : Nat) (ks : List Str) (gD : List D → List D → List D) : Prop :=
  ∃ (g : List Value → List Value → List Value) (gV : List V → List V → List V), KBn K fd ps n ks g gV ∧ ∀ ro H ds vs es zs, Reps K mg ro H ds vs → Reps K mg ro H es zs → Reps K mg ro H (gD ds es) (gV vs zs)
/-- no defaults: the positional ones, then the keywords' in their order -/
theorem kwB_plain {x qual : Str} {st : Stmt} {f : Addr} {fd : FuncData} {ps : List Str} (F : FnP K x qual st [] [] f fd) (n : Nat) (ks : List Str)
    (h : ∀ (kV doc pm : Value) (an : Option Addr) (cdv ct : Value) (us ws : List Value), us.length = n → ws.length = ks.length → bindArgs (PySem.W.fnOf x qual (defArgs st) (defBody st) (defScope st) .none kV doc pm an cdv ct) ⟨us, ks.zip ws⟩ = pure (ps.zip (us ++ ws))) : KwBK K mg fd ps n ks (· ++ ·) := by
  obtain ⟨oc, od, dV, kV, doc, pm, an, cdv, ct, osl, rfl, lk, hcd, hD, hK⟩ := F.ex
  rcases hD with ⟨_, rfl⟩ | ⟨e, _⟩
  · exact ⟨(· ++ ·), (· ++ ·), ⟨fun s us ws _ l1 l2 => .of_eq (h kV doc pm an cdv ct us ws l1 l2), fun r1 r2 => r1.append r2⟩, fun ro H ds vs es zs r1 r2 => r1.append r2⟩
  · exact absurd rfl e
theorem fnP_mk {x qual : Str} {st : Stmt} {f : Addr} {oc : Value} {od an : Option Addr} {osl : Array (Option Value)} {kV doc pm cdv ct : Value} (l : K.lookup f = some ⟨oc, od, .func (PySem.W.fnOf x qual (defArgs st) (defBody st) (defScope st) .none kV doc pm an cdv ct), osl⟩)
    (c : PySem.W.codeIn K cdv qual = true) (k : PySem.W.keepIn K (.ref f) = true) : FnP K x qual st [] [] f (PySem.W.fnOf x qual (defArgs st) (defBody st) (defScope st) .none kV doc pm an cdv ct) := ⟨⟨oc, od, .none, kV, doc, pm, an, cdv, ct, osl, rfl, l, c, .inl ⟨rfl, rfl⟩, .inl rfl⟩, k⟩
theorem fnP_mkD {x qual : Str} {st : Stmt} {f T : Addr} {o : Obj} {its : List Value} {n : Nat} {dvs : List V} {oc : Value} {od an : Option Addr} {osl : Array (Option Value)} {kV doc pm cdv ct : Value} (l : K.lookup f = some ⟨oc, od, .func (PySem.W.fnOf x qual (defArgs st) (defBody st) (defScope st) (.ref T) kV doc pm an cdv ct), osl⟩)
    (c : PySem.W.codeIn K cdv qual = true) (k : PySem.W.keepIn K (.ref f) = true) (hT : K.lookup T = some o) (hd : o.data = .seq its.toArray n) (hv : Vals dvs its) (hn : dvs ≠ []) : FnP K x qual st dvs [] f (PySem.W.fnOf x qual (defArgs st) (defBody st) (defScope st) (.ref T) kV doc pm an cdv ct) := ⟨⟨oc, od, .ref T, kV, doc, pm, an, cdv, ct, osl, rfl, l, c, .inr ⟨hn, T, o, its, n, rfl, hT, hd, hv⟩, .inl rfl⟩, k⟩
theorem de_gstr' {X : Cx} {W : WX} {pos : Pos} {x : Str} {s : String} (hm : ∃ t, X.mg x = some (.str (Str.ofString s) t)) (hg : Gl X x) (hd : (x == ("__debug__" : Str)) = false := by decide) : DE X W (.Name x pos) (constE (.str (sL s))) := by
  obtain ⟨t, hm⟩ := hm
  exact de_gstr hg hm hd
theorem de_gint' {X : Cx} {W : WX} {pos : Pos} {x : Str} {i : Int} (hm : ∃ t, X.mg x = some (.int i t)) (hg : Gl X x) (hd : (x == ("__debug__" : Str)) = false := by decide) : DE X W (.Name x pos) (constE (.int i)) := by
  obtain ⟨t, hm⟩ := hm
  exact de_gint hg hm hd

/-- the law's promise -/
def spLaw (K : PySem.W.Frag) : Sp := fun vs H Q _ => ∃ (a : Addr) (ns : List Int), vs = [.ref a] ∧ SqL K H a (ns.map V.int) ∧ ns.length ≤ 63 ∧ ∀ H', Q (.bl true) H'
theorem reps_ints {ro : Pl} {H : Hp} : ∀ ns : List Int, Reps K mg ro H (ns.map D.int) (ns.map V.int)
  | [] => rfl
  | n :: ns => ⟨_, _, rfl, rfl, reps_ints ns⟩
theorem dok_law {P : Program} {w : World} {base : Heap} {k : Nat} {f : Addr} {fd : FuncData} {x : Str} {F : FM} (h : DOk P w K mg base k f fd [x] F) (hlaw : ∀ ns : List Int, ns.length ≤ 63 → ∃ M', F [.flst (ns.map D.int)] [] = .ok (.bl true) M') : FnOk P w K mg base (L2.CX P w) k f fd [x] (spLaw K) :=
  FnOk.imp h fun vs H Q E ⟨a, ns, hv, hS, hl, q⟩ => by
    subst hv
    obtain ⟨M', e⟩ := hlaw ns hl
    refine ⟨rfl, ⟨[], []⟩, [.flst (ns.map D.int)], [], ⟨rfl, List.nodup_nil, fun a h => (by cases h), fun a h => (by cases h), fun i mo a h => (by simp at h)⟩, ?_, ?_⟩
    · refine Reps.one ⟨a, ns.map V.int, rfl, ?_, reps_ints ns⟩
      rcases hS with hS | ⟨o, its, n, h1, h2, h3, h4, h5, h6⟩
      · exact .inl ⟨hS, by simp [Pl.all]⟩
      · exact .inr ⟨o, its, n, h1, h2, h3, h4, h5, h6⟩
    · rw [e]
      intro ro' H' v _ _ r
      cases (show v = V.bl true from r)
      exact q H'
end
theorem walkD {l : PySem.W.OpenLaw} {q : Program} {loose : List Str} {XP : (Str → Option Value) → Heap → Prop} {YP : World → Heap → Prop} {d : DefRec} {K : Params → PySem.W.Frag} (x : Str) (k : Nat) (hn : l.most = some 63) (hdf : d.params.defaults = []) (hk : Room k callerA)
    (hY : ∀ (w : World) (h : Heap), YP w h → (K w.params).In h)
    (F : ∀ (w : World) (mg : Str → Option Value) (fa : Addr) (h : Heap), (K w.params).In h → h.Ns mainGlobals mg → mg d.name = some (.ref fa) →
      ∃ fd : FuncData, (∀ (s : Shared) (u : Value), BindsTo s fd ⟨[u], []⟩ [(x, u)]) ∧ ∀ base : Heap, (K w.params).In base → base.Ns mainGlobals mg → FnOk l.prog w (K w.params) mg base (L2.CX l.prog w) k fa fd [x] (spLaw (K w.params))) :
    PySem.W.WalkO q loose XP YP l.row.toRowW d [] (fun f vs => PySem.call f vs) :=
  L2.walk_of (n := 63) (k := k) (x := x) (CX := fun w => L2.CX l.prog w) (sp := fun w => spLaw (K w.params)) hn (by decide) hdf hk hY F (fun _ _ a ns hl _ hS => ⟨a, ns, rfl, hS, hl, fun _ => rfl⟩) fun _ _ _ _ _ ⟨_, _, _, _, _, _, _, _, _, _, _, _, z⟩ => z
end DL
namespace DL
open PySem PySem.Spec L2
open PyProof.Rows hiding St
theorem na_nil {K : PySem.W.Frag} {c : Addr} : ∀ f, f ∈ ([] : List String) → NoAttr K c (Str.ofString f) := fun f h => by cases h
theorem na_cons {K : PySem.W.Frag} {c : Addr} {a : String} {as : List String} (h : NoAttr K c (Str.ofString a)) (r : ∀ f, f ∈ as → NoAttr K c (Str.ofString f)) : ∀ f, f ∈ a :: as → NoAttr K c (Str.ofString f) := fun f hf => by
  rcases List.mem_cons.mp hf with e | hf
  · rw [e]; exact h
  · exact r f hf
theorem fs_nil {K : PySem.W.Frag} {mg : Str → Option Value} {a : String} : ∀ C, C ∈ ([] : List String) → ∃ c fs, CInfo K mg C c fs ∧ a ∈ fs := fun f h => by cases h
theorem fs_cons {K : PySem.W.Frag} {mg : Str → Option Value} {a B : String} {b : Addr} {fs : List String} {Cs : List String} (h : CInfo K mg B b fs) (m : a ∈ fs) (r : ∀ C, C ∈ Cs → ∃ c fs, CInfo K mg C c fs ∧ a ∈ fs) : ∀ C, C ∈ B :: Cs → ∃ c fs, CInfo K mg C c fs ∧ a ∈ fs := fun f hf => by
  rcases List.mem_cons.mp hf with e | hf
  · rw [e]; exact ⟨b, fs, h, m⟩
  · exact r f hf
end DL

/-! DL: running mirrors. -/
namespace DL
open PySem PySem.Spec L2
open PyProof.Rows hiding St

section
variable {sd : SD} {M : MS} {a b : ME} {ta tb tc : MB} {sa sb : MST} {ms mk : MA} {f : D → D → MS → Res D} {d e : D} {ds es : List D}
def setK (sd : SD) (i : Nat) : D → MS → SRes := fun d M1 => .nx (sd.set i (some d)) M1
def exprK (sd : SD) : D → MS → SRes := fun _ M1 => .nx sd M1
def retK : D → MS → SRes := fun d M1 => .ret d M1
def ifK (sa sb : MST) (sd : SD) : Bool → MS → SRes := fun k M1 => if k = true then sa sd M1 else sb sd M1
def putK1 (mo mi : ME) (sd : SD) : D → MS → SRes := fun v M1 => SRes.ofE (mo sd M1) sd fun o M2 => SRes.ofE (mi sd M2) sd fun i M3 => match setItemD M3 o i v with
  | some M4 => .nx sd M4
  | none => .stuck
def putK2 (mi : ME) (sd : SD) (v : D) : D → MS → SRes := fun o M2 => SRes.ofE (mi sd M2) sd fun i M3 => match setItemD M3 o i v with
  | some M4 => .nx sd M4
  | none => .stuck
def putK3 (sd : SD) (v o : D) : D → MS → SRes := fun i M3 => match setItemD M3 o i v with
  | some M4 => .nx sd M4
  | none => .stuck
def augK1 (sd : SD) (i : Nat) (f : D → D → MS → Res D) (a : ME) : D → MS → SRes := fun x M1 => SRes.ofE (a sd M1) sd fun y M2 => SRes.ofE (f x y M2) sd fun d M3 => .nx (sd.set i (some d)) M3
def augK2 (sd : SD) (i : Nat) (f : D → D → MS → Res D) (x : D) : D → MS → SRes := fun y M2 => SRes.ofE (f x y M2) sd fun d M3 => .nx (sd.set i (some d)) M3
noncomputable def forK (g : MG) (sb : MST) (sd : SD) : ItD → MS → SRes := fun i M1 => forGo i.chk g sb i.ds sd M1
def binK (f : D → D → MS → Res D) (b : ME) (sd : SD) : D → MS → Res D := fun d M1 => (b sd M1).bind fun e M2 => f d e M2
def binK2 (f : D → D → MS → Res D) (d : D) : D → MS → Res D := fun e M2 => f d e M2
def andK (b : ME) (sd : SD) : D → MS → Res D := fun d M1 => match d with
  | .bl true => b sd M1
  | .bl false => .ok (.bl false) M1
  | _ => .stuck
def orK (b : ME) (sd : SD) : D → MS → Res D := fun d M1 => match d with
  | .bl true => .ok (.bl true) M1
  | .bl false => b sd M1
  | _ => .stuck
def notK : D → MS → Res D := fun d M1 => match d with
  | .bl c => .ok (.bl (!c)) M1
  | _ => .stuck
def ifEK (a b : ME) (sd : SD) : Bool → MS → Res D := fun k M1 => if k = true then a sd M1 else b sd M1
def valK : D → MS → Res Bool := fun d M1 => match d with
  | .bl c => .ok c M1
  | _ => .stuck
def truK : D → MS → Res Bool := fun d M1 => match truD M1 d with
  | some c => .ok c M1
  | none => .stuck
def andBK (tb : MB) (sd : SD) : Bool → MS → Res Bool := fun c M1 => if c = true then tb sd M1 else .ok false M1
def orBK (tb : MB) (sd : SD) : Bool → MS → Res Bool := fun c M1 => if c = true then .ok true M1 else tb sd M1
def notBK : Bool → MS → Res Bool := fun c M1 => .ok (!c) M1
def consK (ms : MA) (sd : SD) : D → MS → Res (List D) := fun d M1 => (ms sd M1).bind fun ds M2 => .ok (d :: ds) M2
def consK2 (d : D) : List D → MS → Res (List D) := fun ds M2 => .ok (d :: ds) M2
def tupK : List D → MS → Res D := fun ds M1 => if ds.length ≤ 1000000 then .ok (.tup ds) M1 else .stuck
def lstK : List D → MS → Res D := fun ds M1 => if ds.length ≤ 1000000 then .ok (.lst ds) M1 else .stuck
def celK : List D → MS → Res D := fun ds M1 => if ds.length ≤ 1000000 then .ok (.cell M1.length) (M1 ++ [.lst ds]) else .stuck
def callK (n : Nat) (F : FM) (g : List D → List D) : List D → MS → Res D := fun ds M1 => if (g ds).length = n then F (g ds) M1 else .stuck
def callKK (n np nk : Nat) (F : FM) (g : List D → List D → List D) (mk : MA) (sd : SD) : List D → MS → Res D := fun ds M1 => (mk sd M1).bind fun es M2 => if ds.length = np ∧ es.length = nk ∧ (g ds es).length = n then F (g ds es) M2 else .stuck
def callKK2 (n np nk : Nat) (F : FM) (g : List D → List D → List D) (ds : List D) : List D → MS → Res D := fun es M2 => if ds.length = np ∧ es.length = nk ∧ (g ds es).length = n then F (g ds es) M2 else .stuck
def bmK (T : String) (f : D → List D → MS → Res D) (ms : MA) (sd : SD) : D → MS → Res D := fun d M1 => if tyvD M1 T d = true then (ms sd M1).bind fun ds M2 => f d ds M2 else .stuck
def bmK2 (f : D → List D → MS → Res D) (d : D) : List D → MS → Res D := fun ds M2 => f d ds M2
def methK (C m : String) (n : Nat) (F : FM) (g : List D → List D) (ms : MA) (sd : SD) : D → MS → Res D := fun d M1 => if insOf M1 C m d = true then (ms sd M1).bind fun ds M2 => if (g (d :: ds)).length = n then F (g (d :: ds)) M2 else .stuck else .stuck
def methK2 (n : Nat) (F : FM) (g : List D → List D) (d : D) : List D → MS → Res D := fun ds M2 => if (g (d :: ds)).length = n then F (g (d :: ds)) M2 else .stuck
def itK : D → MS → Res ItD := fun d M1 => match itD M1 d with
  | some it => .ok it M1
  | none => .stuck
noncomputable def lcK (g : MG) (ta : MB) (a : ME) (vs : List Nat) (sd : SD) : ItD → MS → Res D := fun it M1 => (lcGo it.chk g ta a (wipeD sd vs) it.ds [] M1).ne.bind fun ds M2 => .ok (.lst ds) M2
noncomputable def lcCK (g : MG) (ta : MB) (a : ME) (vs : List Nat) (sd : SD) : ItD → MS → Res D := fun it M1 => (lcGo it.chk g ta a (wipeD sd vs) it.ds [] M1).ne.bind fun ds M2 => .ok (.cell M2.length) (M2 ++ [.lst ds])
def lstK' : List D → MS → Res D := fun ds M2 => .ok (.lst ds) M2
def celK' : List D → MS → Res D := fun ds M2 => .ok (.cell M2.length) (M2 ++ [.lst ds])
def r1K : List D → MS → Res ItD := fun ds M1 => match ds with
  | [.int j] => if -1000000000 ≤ j ∧ j ≤ 1000000000 then .ok (intsI (rangeN 0 j)) M1 else .stuck
  | _ => .stuck
def r2K : List D → MS → Res ItD := fun ds M1 => match ds with
  | [.int i, .int j] => if -1000000000 ≤ i ∧ i ≤ 1000000000 ∧ -1000000000 ≤ j ∧ j ≤ 1000000000 then .ok (intsI (rangeN i j)) M1 else .stuck
  | _ => .stuck
def r3K : List D → MS → Res ItD := fun ds M1 => match ds with
  | [.int i, .int j, .int c] => if -1000000000 ≤ i ∧ i ≤ 1000000000 ∧ -1000000000 ≤ j ∧ j ≤ 1000000000 ∧ 0 < c ∧ c ≤ 1000000000 then .ok (intsI (rangeC i j c)) M1 else .stuck
  | _ => .stuck
def sfK1 (cs : List String) (f : String) (mo : ME) (sd : SD) : D → MS → SRes := fun v M1 => SRes.ofE (mo sd M1) sd fun o M2 => match setFldD cs f M2 o v with
  | some M3 => .nx sd M3
  | none => .stuck
def sfK2 (cs : List String) (f : String) (sd : SD) (v : D) : D → MS → SRes := fun o M2 => match setFldD cs f M2 o v with
  | some M3 => .nx sd M3
  | none => .stuck
@[simp] theorem seqS_ap : seqS sa sb sd M = (sa sd M).seq sb := rfl
@[simp] theorem setS_ap {i : Nat} : setS i a sd M = SRes.ofE (a sd M) sd (setK sd i) := rfl
@[simp] theorem setK_ap {i : Nat} : setK sd i d M = .nx (sd.set i (some d)) M := rfl
@[simp] theorem exprS_ap : exprS a sd M = SRes.ofE (a sd M) sd (exprK sd) := rfl
@[simp] theorem exprK_ap : exprK sd d M = .nx sd M := rfl
@[simp] theorem retS_ap : retS a sd M = SRes.ofE (a sd M) sd retK := rfl
@[simp] theorem retK_ap : retK d M = .ret d M := rfl
@[simp] theorem retNS_ap : retNS sd M = .ret .non M := rfl
@[simp] theorem passS_ap : passS sd M = .nx sd M := rfl
@[simp] theorem brkS_ap : brkS sd M = .brk sd M := rfl
@[simp] theorem ctS_ap : ctS sd M = .ct sd M := rfl
@[simp] theorem stuckS_ap : stuckS sd M = .stuck := rfl
@[simp] theorem ifS_ap : ifS tc sa sb sd M = SRes.ofE (tc sd M) sd (ifK sa sb sd) := rfl
@[simp] theorem ifK_t : ifK sa sb sd true M = sa sd M := rfl
@[simp] theorem ifK_f : ifK sa sb sd false M = sb sd M := rfl
theorem ifK_ap {k : Bool} : ifK sa sb sd k M = if k = true then sa sd M else sb sd M := rfl
@[simp] theorem putS_ap {mo mi m : ME} : putS mo mi m sd M = SRes.ofE (m sd M) sd (putK1 mo mi sd) := rfl
@[simp] theorem putK1_ap {mo mi : ME} : putK1 mo mi sd d M = SRes.ofE (mo sd M) sd (putK2 mi sd d) := rfl
@[simp] theorem putK2_ap {mi : ME} : putK2 mi sd d e M = SRes.ofE (mi sd M) sd (putK3 sd d e) := rfl
theorem putK3_ap {i : D} : putK3 sd d e i M = match setItemD M e i d with
  | some M4 => .nx sd M4
  | none => .stuck := rfl
@[simp] theorem augS_ap {i : Nat} : augS i f a sd M = SRes.ofE (nameE i sd M) sd (augK1 sd i f a) := rfl
@[simp] theorem augK1_ap {i : Nat} : augK1 sd i f a d M = SRes.ofE (a sd M) sd (augK2 sd i f d) := rfl
@[simp] theorem augK2_ap {i : Nat} : augK2 sd i f d e M = SRes.ofE (f d e M) sd (setK sd i) := rfl
@[simp] theorem forS_ap {it : MI} {g : MG} : forS it g sb sd M = SRes.ofE (it sd M) sd (forK g sb sd) := rfl
@[simp] theorem forK_ap {g : MG} {i : ItD} : forK g sb sd i M = forGo i.chk g sb i.ds sd M := rfl
@[simp] theorem SRes.res_nx : (SRes.nx sd M).res = .ok .non M := rfl
@[simp] theorem SRes.res_ret : (SRes.ret d M).res = .ok d M := rfl
@[simp] theorem SRes.res_exc {C : String} {ns : List String} : (SRes.exc C ns ds sd M).res = .exc C ns ds M := rfl
@[simp] theorem nameE_0 {o : D} {r : SD} : nameE 0 (some o :: r) M = .ok o M := rfl
@[simp] theorem nameE_s {i : Nat} {o : Option D} {r : SD} : nameE (i + 1) (o :: r) M = nameE i r M := by unfold nameE; simp
@[simp] theorem constE_ap : constE d sd M = .ok d M := rfl
@[simp] theorem binE_ap : binE f a b sd M = (a sd M).bind (binK f b sd) := rfl
@[simp] theorem binK_ap : binK f b sd d M = (b sd M).bind (binK2 f d) := rfl
@[simp] theorem binK2_ap : binK2 f d e M = f d e M := rfl
@[simp] theorem unE_ap {h : D → MS → Res D} : unE h a sd M = (a sd M).bind h := rfl
@[simp] theorem andE_ap : andE a b sd M = (a sd M).bind (andK b sd) := rfl
@[simp] theorem andK_t : andK b sd (.bl true) M = b sd M := rfl
@[simp] theorem andK_f : andK b sd (.bl false) M = .ok (.bl false) M := rfl
@[simp] theorem orE_ap : orE a b sd M = (a sd M).bind (orK b sd) := rfl
@[simp] theorem orK_t : orK b sd (.bl true) M = .ok (.bl true) M := rfl
@[simp] theorem orK_f : orK b sd (.bl false) M = b sd M := rfl
@[simp] theorem notE_ap : notE a sd M = (a sd M).bind notK := rfl
@[simp] theorem notK_ap {c : Bool} : notK (.bl c) M = .ok (.bl (!c)) M := rfl
@[simp] theorem ifE_ap : ifE tc a b sd M = (tc sd M).bind (ifEK a b sd) := rfl
@[simp] theorem ifEK_t : ifEK a b sd true M = a sd M := rfl
@[simp] theorem ifEK_f : ifEK a b sd false M = b sd M := rfl
@[simp] theorem valB_ap : valB a sd M = (a sd M).bind valK := rfl
@[simp] theorem valK_ap {c : Bool} : valK (.bl c) M = .ok c M := rfl
@[simp] theorem truB_ap : truB a sd M = (a sd M).bind truK := rfl
theorem truK_ap : truK d M = match truD M d with
  | some c => .ok c M
  | none => .stuck := rfl
@[simp] theorem truK_bl {c : Bool} : truK (.bl c) M = .ok c M := rfl
@[simp] theorem truK_non : truK .non M = .ok false M := rfl
@[simp] theorem truK_int {i : Int} : truK (.int i) M = .ok (i != 0) M := rfl
@[simp] theorem truK_lst : truK (.lst ds) M = .ok (!ds.isEmpty) M := rfl
@[simp] theorem truK_flst : truK (.flst ds) M = .ok (!ds.isEmpty) M := rfl
@[simp] theorem truK_tup : truK (.tup ds) M = .ok (!ds.isEmpty) M := rfl
theorem truK_str {x : List Nat} (h : x.length ≤ 1000000) : truK (.str x) M = .ok ((x.length : Int) != 0) M := by unfold truK truD; simp [h]
@[simp] theorem andB_ap : andB ta tb sd M = (ta sd M).bind (andBK tb sd) := rfl
@[simp] theorem andBK_t : andBK tb sd true M = tb sd M := rfl
@[simp] theorem andBK_f : andBK tb sd false M = .ok false M := rfl
@[simp] theorem orB_ap : orB ta tb sd M = (ta sd M).bind (orBK tb sd) := rfl
@[simp] theorem orBK_t : orBK tb sd true M = .ok true M := rfl
@[simp] theorem orBK_f : orBK tb sd false M = tb sd M := rfl
@[simp] theorem notB_ap : notB ta sd M = (ta sd M).bind notBK := rfl
@[simp] theorem notBK_ap {c : Bool} : notBK c M = .ok (!c) M := rfl
@[simp] theorem yesB_ap : yesB sd M = .ok true M := rfl
@[simp] theorem nilA_ap : nilA sd M = .ok [] M := rfl
@[simp] theorem consA_ap : consA a ms sd M = (a sd M).bind (consK ms sd) := rfl
@[simp] theorem consK_ap : consK ms sd d M = (ms sd M).bind (consK2 d) := rfl
@[simp] theorem consK2_ap : consK2 d ds M = .ok (d :: ds) M := rfl
@[simp] theorem tupE_ap : tupE ms sd M = (ms sd M).bind tupK := rfl
theorem tupK_ap (h : ds.length ≤ 1000000) : tupK ds M = .ok (.tup ds) M := if_pos h
@[simp] theorem lstE_ap : lstE ms sd M = (ms sd M).bind lstK := rfl
theorem lstK_ap (h : ds.length ≤ 1000000) : lstK ds M = .ok (.lst ds) M := if_pos h
@[simp] theorem celE_ap : celE ms sd M = (ms sd M).bind celK := rfl
theorem celK_ap (h : ds.length ≤ 1000000) : celK ds M = .ok (.cell M.length) (M ++ [.lst ds]) := if_pos h
@[simp] theorem appE_ap {h : List D → MS → Res D} : appE h ms sd M = (ms sd M).bind h := rfl
@[simp] theorem callE_ap {n : Nat} {F : FM} {g : List D → List D} : callE n F g ms sd M = (ms sd M).bind (callK n F g) := rfl
theorem callK_ap {n : Nat} {F : FM} {g : List D → List D} (h : (g ds).length = n) : callK n F g ds M = F (g ds) M := if_pos h
@[simp] theorem callKE_ap {n np nk : Nat} {F : FM} {g : List D → List D → List D} : callKE n np nk F g ms mk sd M = (ms sd M).bind (callKK n np nk F g mk sd) := rfl
@[simp] theorem callKK_ap {n np nk : Nat} {F : FM} {g : List D → List D → List D} : callKK n np nk F g mk sd ds M = (mk sd M).bind (callKK2 n np nk F g ds) := rfl
theorem callKK2_ap {n np nk : Nat} {F : FM} {g : List D → List D → List D} (h : ds.length = np ∧ es.length = nk ∧ (g ds es).length = n) : callKK2 n np nk F g ds es M = F (g ds es) M := if_pos h
@[simp] theorem bmE_ap {T : String} {h : D → List D → MS → Res D} : bmE T h a ms sd M = (a sd M).bind (bmK T h ms sd) := rfl
theorem bmK_ap {T : String} {h : D → List D → MS → Res D} (ht : tyvD M T d = true) : bmK T h ms sd d M = (ms sd M).bind (bmK2 h d) := if_pos ht
@[simp] theorem bmK2_ap {h : D → List D → MS → Res D} : bmK2 h d ds M = h d ds M := rfl
@[simp] theorem methE_ap {C m : String} {n : Nat} {F : FM} {g : List D → List D} : methE C m n F g a ms sd M = (a sd M).bind (methK C m n F g ms sd) := rfl
theorem methK_ap {C m : String} {n : Nat} {F : FM} {g : List D → List D} (h : insOf M C m d = true) : methK C m n F g ms sd d M = (ms sd M).bind (methK2 n F g d) := if_pos h
theorem methK2_ap {n : Nat} {F : FM} {g : List D → List D} (h : (g (d :: ds)).length = n) : methK2 n F g d ds M = F (g (d :: ds)) M := if_pos h
@[simp] theorem anyI_ap : anyI a sd M = (a sd M).bind itK := rfl
theorem itK_ap : itK d M = match itD M d with
  | some it => .ok it M
  | none => .stuck := rfl
@[simp] theorem itK_str {x : List Nat} : itK (.str x) M = .ok ⟨x.map fun c => .str [c], fun _ => True⟩ M := rfl
@[simp] theorem itK_tup : itK (.tup ds) M = .ok ⟨ds, fun _ => True⟩ M := rfl
@[simp] theorem itK_lst : itK (.lst ds) M = .ok ⟨ds, fun _ => True⟩ M := rfl
@[simp] theorem itK_flst : itK (.flst ds) M = .ok ⟨ds, fun _ => True⟩ M := rfl
@[simp] theorem lcE_ap {mi : MI} {g : MG} {vs : List Nat} : lcE mi g ta a vs sd M = (mi sd M).bind (lcK g ta a vs sd) := rfl
@[simp] theorem lcK_ap {g : MG} {vs : List Nat} {it : ItD} : lcK g ta a vs sd it M = (lcGo it.chk g ta a (wipeD sd vs) it.ds [] M).ne.bind lstK' := rfl
@[simp] theorem lstK'_ap : lstK' ds M = .ok (.lst ds) M := rfl
@[simp] theorem lcC_ap {mi : MI} {g : MG} {vs : List Nat} : lcC mi g ta a vs sd M = (mi sd M).bind (lcCK g ta a vs sd) := rfl
@[simp] theorem lcCK_ap {g : MG} {vs : List Nat} {it : ItD} : lcCK g ta a vs sd it M = (lcGo it.chk g ta a (wipeD sd vs) it.ds [] M).ne.bind celK' := rfl
@[simp] theorem celK'_ap : celK' ds M = .ok (.cell M.length) (M ++ [.lst ds]) := rfl
@[simp] theorem range1I_ap : range1I ms sd M = (ms sd M).bind r1K := rfl
theorem r1K_ap {j : Int} (h : -1000000000 ≤ j ∧ j ≤ 1000000000) : r1K [.int j] M = .ok (intsI (rangeN 0 j)) M := if_pos h
@[simp] theorem range2I_ap : range2I ms sd M = (ms sd M).bind r2K := rfl
theorem r2K_ap {i j : Int} (h : -1000000000 ≤ i ∧ i ≤ 1000000000 ∧ -1000000000 ≤ j ∧ j ≤ 1000000000) : r2K [.int i, .int j] M = .ok (intsI (rangeN i j)) M := if_pos h
@[simp] theorem range3I_ap : range3I ms sd M = (ms sd M).bind r3K := rfl
theorem r3K_ap {i j c : Int} (h : -1000000000 ≤ i ∧ i ≤ 1000000000 ∧ -1000000000 ≤ j ∧ j ≤ 1000000000 ∧ 0 < c ∧ c ≤ 1000000000) : r3K [.int i, .int j, .int c] M = .ok (intsI (rangeC i j c)) M := if_pos h
/-- values -/
@[simp] theorem addD_int {i j : Int} : addD (.int i) (.int j) M = .ok (.int (i + j)) M := rfl
theorem addD_str {x y : List Nat} (h : x.length + y.length ≤ 1000000) : addD (.str x) (.str y) M = .ok (.str (x ++ y)) M := if_pos h
@[simp] theorem subI_int {i j : Int} : subI (.int i) (.int j) M = .ok (.int (i - j)) M := rfl
theorem mulD_int {i j : Int} (h : (-(2 ^ 64) < i ∧ i < 2 ^ 64) ∨ (-(2 ^ 64) < j ∧ j < 2 ^ 64)) : mulD (.int i) (.int j) M = .ok (.int (i * j)) M := if_pos h
theorem fdivI_int {i j : Int} (h : 0 < j ∧ j < 1073741824) : fdivI (.int i) (.int j) M = .ok (.int (i / j)) M := if_pos h
theorem modI_int {i j : Int} (h : 0 < j) : modI (.int i) (.int j) M = .ok (.int (i % j)) M := if_pos h
theorem powI_int {i j : Int} (h : 0 ≤ j ∧ j ≤ 1000000 ∧ i.natAbs < 2 ^ 64) : powI (.int i) (.int j) M = .ok (.int (i ^ j.toNat)) M := if_pos h
@[simp] theorem negI_int {i : Int} : negI (.int i) M = .ok (.int (-i)) M := rfl
@[simp] theorem ltD_int {i j : Int} : ltD (.int i) (.int j) M = .ok (.bl (decide (i < j))) M := rfl
@[simp] theorem leD_int {i j : Int} : leD (.int i) (.int j) M = .ok (.bl (decide (i ≤ j))) M := rfl
@[simp] theorem gtD_int {i j : Int} : gtD (.int i) (.int j) M = .ok (.bl (decide (j < i))) M := rfl
@[simp] theorem geD_int {i j : Int} : geD (.int i) (.int j) M = .ok (.bl (decide (j ≤ i))) M := rfl
@[simp] theorem ltD_str {x y : List Nat} : ltD (.str x) (.str y) M = .ok (.bl (decide (x < y))) M := rfl
@[simp] theorem leD_str {x y : List Nat} : leD (.str x) (.str y) M = .ok (.bl (!decide (y < x))) M := rfl
@[simp] theorem eqD_int {n : Bool} {i j : Int} : eqD n (.int i) (.int j) M = .ok (.bl ((i == j) != n)) M := rfl
@[simp] theorem eqD_str {n : Bool} {x y : List Nat} : eqD n (.str x) (.str y) M = .ok (.bl ((x == y) != n)) M := rfl
@[simp] theorem eqD_bl {n : Bool} {x y : Bool} : eqD n (.bl x) (.bl y) M = .ok (.bl ((x == y) != n)) M := rfl
@[simp] theorem inD_str {n : Bool} {x y : List Nat} : inD n (.str x) (.str y) M = .ok (.bl (subIn x y != n)) M := rfl
theorem ixD_str {x : List Nat} {k : Int} {c : Nat} (h : x.length ≤ 1000000) (e : L2.atI x k = some c) : ixD (.str x) (.int k) M = .ok (.str [c]) M := by unfold ixD; simp [h, e]
theorem ixD_lst {k : Int} (e : L2.atI ds k = some d) : ixD (.lst ds) (.int k) M = .ok d M := by unfold ixD; simp [seqOf, e]
theorem ixD_flst {k : Int} (e : L2.atI ds k = some d) : ixD (.flst ds) (.int k) M = .ok d M := by unfold ixD; simp [seqOf, e]
theorem ixD_tup {k : Int} (e : L2.atI ds k = some d) : ixD (.tup ds) (.int k) M = .ok d M := by unfold ixD; simp [seqOf, e]
theorem ixD_cell {n : Nat} {k : Int} (hm : M[n]? = some (.lst ds)) (e : L2.atI ds k = some d) : ixD (.cell n) (.int k) M = .ok d M := by unfold ixD; simp [seqOf, hm, e]
theorem ixN_nat {n j : Nat} (h : j < n) : ixN n (j : Int) = some j := by
  unfold ixN
  rw [if_pos (by omega), if_pos (by omega)]
  simp
theorem ixN_of {n : Nat} {k : Int} (h0 : 0 ≤ k) (h : k < n) : ixN n k = some k.toNat := by
  unfold ixN
  rw [if_pos h0, if_pos h]
theorem atI_of {α : Type} {l : List α} {j : Nat} {x : α} (h : l[j]? = some x) : L2.atI l (j : Int) = some x := by
  unfold L2.atI
  rw [ixN_nat (List.getElem?_eq_some_iff.mp h).1]
  exact h
@[simp] theorem lenF_flst : lenF [.flst ds] M = .ok (.int ds.length) M := rfl
@[simp] theorem lenF_lst : lenF [.lst ds] M = .ok (.int ds.length) M := rfl
@[simp] theorem lenF_tup : lenF [.tup ds] M = .ok (.int ds.length) M := rfl
theorem lenF_str {x : List Nat} (h : x.length ≤ 1000000) : lenF [.str x] M = .ok (.int x.length) M := if_pos h
theorem lenF_cell {n : Nat} (hm : M[n]? = some (.lst ds)) : lenF [.cell n] M = .ok (.int ds.length) M := by unfold lenF; simp [hm]
@[simp] theorem max2F_int {i j : Int} : max2F [.int i, .int j] M = .ok (.int (if j > i then j else i)) M := rfl
@[simp] theorem min2F_int {i j : Int} : min2F [.int i, .int j] M = .ok (.int (if j < i then j else i)) M := rfl
@[simp] theorem absF_int {i : Int} : absF [.int i] M = .ok (.int (if i < 0 then -i else i)) M := rfl
@[simp] theorem intF_int {i : Int} : intF [.int i] M = .ok (.int i) M := rfl
@[simp] theorem intF_bl {i : Bool} : intF [.bl i] M = .ok (.int (if i then 1 else 0)) M := rfl
@[simp] theorem boolF_int {i : Int} : boolF [.int i] M = .ok (.bl (i != 0)) M := rfl
@[simp] theorem boolF_bl {i : Bool} : boolF [.bl i] M = .ok (.bl i) M := rfl
theorem joinF_lst {x : List Nat} {xs : List (List Nat)} (h : (xs.map List.length).sum + xs.length * x.length ≤ 1000000) : joinF (.str x) [.lst (xs.map D.str)] M = .ok (.str (TL.joinL x xs)) M := by unfold joinF; simp [seqOf, h]
theorem putK3_cell {n : Nat} {k : Int} {j : Nat} {v : D} (hm : M[n]? = some (.lst ds)) (e : ixN ds.length k = some j) : putK3 sd v (.cell n) (.int k) M = .nx sd (M.set n (.lst (ds.set j v))) := by
  unfold putK3 setItemD; simp [hm, e]
@[simp] theorem setFldS_ap {cs : List String} {g : String} {mo m : ME} : setFldS cs g mo m sd M = SRes.ofE (m sd M) sd (sfK1 cs g mo sd) := rfl
@[simp] theorem sfK1_ap {cs : List String} {g : String} {mo : ME} : sfK1 cs g mo sd d M = SRes.ofE (mo sd M) sd (sfK2 cs g sd d) := rfl
theorem sfK2_cell {cs : List String} {g C : String} {ns : List String} {n : Nat} (hm : M[n]? = some (.obj C ns ds)) (hc : C ∈ cs ∧ ns.length < 900 ∧ ns.length = ds.length) : sfK2 cs g sd d (.cell n) M = .nx sd (M.set n (.obj C (putN ns ds g d).1 (putN ns ds g d).2)) := by
  unfold sfK2 setFldD; simp only [hm, if_pos hc]
theorem fldD_obj {cs : List String} {g C : String} {ns : List String} (hC : C ∈ cs) (h : lookF ns ds g = some d) : fldD cs g (.obj C ns ds) M = .ok d M := by unfold fldD; simp [hC, h]
theorem fldD_cell {cs : List String} {g C : String} {ns : List String} {n : Nat} (hm : M[n]? = some (.obj C ns ds)) (hC : C ∈ cs) (h : lookF ns ds g = some d) : fldD cs g (.cell n) M = .ok d M := by unfold fldD; simp [hm, hC, h]
theorem inO_obj {C : String} {F : FM} {neg b : Bool} {ns : List String} {M' : MS} (h : F [.obj C ns ds, d] M = .ok (.bl b) M') : inO C F neg d (.obj C ns ds) M = .ok (.bl (b != neg)) M' := by unfold inO isIns; simp [h]
theorem joinL_nil : ∀ xs : List (List Nat), TL.joinL [] xs = xs.flatten
  | [] => rfl
  | [x] => by simp [TL.joinL]
  | x :: y :: r => by
    have := joinL_nil (y :: r)
    simp only [TL.joinL, List.nil_append, List.flatten_cons] at *
    rw [this]
end
section
variable {sd : SD} {M : MS} {sa : MST}
theorem runD_ap {n : Nat} {ds : List D} : runD n sa ds M = (sa (startD n ds) M).res := rfl
end

/-! ### loops -/
open Classical in
/-- a for whose turns all go on -/
theorem forGo_go {chk : MS → Prop} {g : MG} {body : MST} (I : Nat → SD → MS → Prop) : ∀ (ds : List D) (k : Nat) (sd : SD) (M : MS), I k sd M →
    (∀ i d sd M, ds[i]? = some d → I (k + i) sd M → chk M ∧ ∃ sd1, g d sd = some sd1 ∧ ∃ sd2 M2, (body sd1 M = .nx sd2 M2 ∨ body sd1 M = .ct sd2 M2) ∧ I (k + i + 1) sd2 M2) → (∀ sd M, I (k + ds.length) sd M → chk M) →
    ∃ sd' M', forGo chk g body ds sd M = .nx sd' M' ∧ I (k + ds.length) sd' M'
  | [], k, sd, M, h, _, hc => ⟨sd, M, by unfold forGo; rw [if_pos (hc sd M h)], h⟩
  | d :: ds, k, sd, M, h, ht, hc => by
    obtain ⟨c, sd1, e1, sd2, M2, e2, h2⟩ := ht 0 d sd M rfl h
    have h2 : I (k + 1) sd2 M2 := h2
    have el : k + (d :: ds).length = k + 1 + ds.length := by simp; omega
    obtain ⟨sd', M', e3, h3⟩ := forGo_go I ds (k + 1) sd2 M2 h2 (fun i d' sd M hi hI => by
      have := ht (i + 1) d' sd M (by simpa using hi) (by rw [show k + (i + 1) = k + 1 + i from by omega]; exact hI)
      rw [show k + (i + 1) = k + 1 + i from by omega] at this
      exact this) (fun sd M hI => hc sd M (by rw [el]; exact hI))
    refine ⟨sd', M', ?_, by rw [el]; exact h3⟩
    unfold forGo
    rw [if_pos c, e1]
    rcases e2 with e2 | e2
    · simp only [e2]; exact e3
    · simp only [e2]; exact e3
open Classical in
/-- a for that goes on or ends early with what R says -/
theorem forGo_or {chk : MS → Prop} {g : MG} {body : MST} (I : Nat → SD → MS → Prop) (R : SRes → Prop) : ∀ (ds : List D) (k : Nat) (sd : SD) (M : MS), I k sd M →
    (∀ i d sd M, ds[i]? = some d → I (k + i) sd M → chk M ∧ ∃ sd1, g d sd = some sd1 ∧ ((∃ sd2 M2, (body sd1 M = .nx sd2 M2 ∨ body sd1 M = .ct sd2 M2) ∧ I (k + i + 1) sd2 M2) ∨ (∃ v M2, body sd1 M = .ret v M2 ∧ R (.ret v M2)) ∨ (∃ sd2 M2, body sd1 M = .brk sd2 M2 ∧ R (.nx sd2 M2)) ∨
      (∃ C ns es sd2 M2, body sd1 M = .exc C ns es sd2 M2 ∧ R (.exc C ns es sd2 M2)))) → (∀ sd M, I (k + ds.length) sd M → chk M ∧ R (.nx sd M)) →
    R (forGo chk g body ds sd M)
  | [], k, sd, M, h, _, hc => by unfold forGo; rw [if_pos (hc sd M h).1]; exact (hc sd M h).2
  | d :: ds, k, sd, M, h, ht, hc => by
    obtain ⟨c, sd1, e1, q⟩ := ht 0 d sd M rfl h
    have el : k + (d :: ds).length = k + 1 + ds.length := by simp; omega
    have ih : ∀ sd2 M2, I (k + 1) sd2 M2 → R (forGo chk g body ds sd2 M2) := fun sd2 M2 h2 => forGo_or I R ds (k + 1) sd2 M2 h2 (fun i d' sd M hi hI => by
      have := ht (i + 1) d' sd M (by simpa using hi) (by rw [show k + (i + 1) = k + 1 + i from by omega]; exact hI)
      rw [show k + (i + 1) = k + 1 + i from by omega] at this
      exact this) (fun sd M hI => hc sd M (by rw [el]; exact hI))
    unfold forGo
    rw [if_pos c, e1]
    rcases q with ⟨sd2, M2, e2, h2⟩ | ⟨v, M2, e2, r⟩ | ⟨sd2, M2, e2, r⟩ | ⟨C, ns, es, sd2, M2, e2, r⟩
    · rcases e2 with e2 | e2
      · simp only [e2]; exact ih _ _ h2
      · simp only [e2]; exact ih _ _ h2
    · simp only [e2]; exact r
    · simp only [e2]; exact r
    · simp only [e2]; exact r
open Classical in
/-- a comprehension whose block changes nothing -/
theorem lcGo_pure {chk : MS → Prop} {g : MG} {tt : MB} {te : ME} {w : SD} {M : MS} (hc : chk M) (p : D → Bool) (f : D → D) : ∀ (ds acc : List D), acc.length + ds.length ≤ 1000000 →
    (∀ d, d ∈ ds → ∃ sd1, g d w = some sd1 ∧ tt sd1 M = .ok (p d) M ∧ (p d = true → te sd1 M = .ok (f d) M)) → lcGo chk g tt te w ds acc M = .ok (acc ++ (ds.filter p).map f) M
  | [], acc, _, _ => by unfold lcGo; rw [if_pos hc]; simp
  | d :: ds, acc, hl, h => by
    obtain ⟨sd1, e1, e2, e3⟩ := h d List.mem_cons_self
    have ih := fun acc' (h' : acc'.length + ds.length ≤ 1000000) => lcGo_pure hc p f ds acc' h' fun x hx => h x (List.mem_cons_of_mem _ hx)
    unfold lcGo
    rw [if_pos hc, e1]
    dsimp only
    rw [e2, Res.ne_ok, Res.bind_ok]
    cases hp : p d with
    | false => simp only [Bool.false_eq_true, if_false]; rw [ih acc (by simp at hl; omega)]; simp [hp]
    | true =>
      rw [if_pos rfl, e3 hp, Res.ne_ok, Res.bind_ok, if_pos (by simp at hl; omega), ih (acc ++ [f d]) (by simp at hl ⊢; omega)]
      simp [hp]
open Classical in
/-- a comprehension whose block changes M -/
theorem lcGo_go {chk : MS → Prop} {g : MG} {tt : MB} {te : ME} {w : SD} (I : Nat → List D → MS → Prop) : ∀ (ds acc : List D) (k : Nat) (M : MS), I k acc M → acc.length + ds.length ≤ 1000000 →
    (∀ i d acc M, ds[i]? = some d → I (k + i) acc M → chk M ∧ ∃ sd1, g d w = some sd1 ∧ ((∃ M1, tt sd1 M = .ok false M1 ∧ I (k + i + 1) acc M1) ∨ ∃ M1 y M2, tt sd1 M = .ok true M1 ∧ te sd1 M1 = .ok y M2 ∧ I (k + i + 1) (acc ++ [y]) M2)) → (∀ acc M, I (k + ds.length) acc M → chk M) →
    ∃ acc' M', lcGo chk g tt te w ds acc M = .ok acc' M' ∧ I (k + ds.length) acc' M'
  | [], acc, k, M, h, _, _, hc => ⟨acc, M, by unfold lcGo; rw [if_pos (hc acc M h)], h⟩
  | d :: ds, acc, k, M, h, hl, ht, hc => by
    obtain ⟨c, sd1, e1, q⟩ := ht 0 d acc M rfl h
    have el : k + (d :: ds).length = k + 1 + ds.length := by simp; omega
    have ih : ∀ acc2 M2, I (k + 1) acc2 M2 → acc2.length + ds.length ≤ 1000000 → ∃ acc' M', lcGo chk g tt te w ds acc2 M2 = .ok acc' M' ∧ I (k + 1 + ds.length) acc' M' := fun acc2 M2 h2 hl2 => lcGo_go I ds acc2 (k + 1) M2 h2 hl2 (fun i d' acc M hi hI => by
      have := ht (i + 1) d' acc M (by simpa using hi) (by rw [show k + (i + 1) = k + 1 + i from by omega]; exact hI)
      rw [show k + (i + 1) = k + 1 + i from by omega] at this
      exact this) (fun acc M hI => hc acc M (by rw [el]; exact hI))
    rw [el]
    unfold lcGo
    rw [if_pos c, e1]
    dsimp only
    simp only [List.length_cons] at hl
    rcases q with ⟨M1, e2, h2⟩ | ⟨M1, y, M2, e2, e3, h2⟩
    · rw [e2, Res.ne_ok, Res.bind_ok]
      simp only [Bool.false_eq_true, if_false]
      exact ih acc M1 h2 (by omega)
    · rw [e2, Res.ne_ok, Res.bind_ok, if_pos rfl, e3, Res.ne_ok, Res.bind_ok, if_pos (by omega)]
      exact ih _ M2 h2 (by simp; omega)

/-! ### data -/
theorem subIn_one (c : Nat) (y : List Nat) : subIn [c] y = decide (c ∈ y) := by
  have := StrLaws.found_one (tx y) c
  simpa [subIn] using this
theorem mkT_of {C : String} {F : FM} {ds : List D} {M : MS} {ns : List String} {es : List D} (h : F (.cell M.length :: ds) (M ++ [.obj C [] []]) = .ok .non (M ++ [.obj C ns es])) (hn : ncs M.length es = true) : mkT C F ds M = .ok (.obj C ns es) M := by
  unfold mkT mkD
  rw [h]
  simp only [Res.bind_ok]
  unfold closeR
  simp [clo, hn]
theorem mem_rangeN {lo hi : Int} {d : D} (h : d ∈ (intsI (rangeN lo hi)).ds) : ∃ k : Int, d = .int k ∧ lo ≤ k ∧ k < hi := by
  simp only [intsI, rangeN, List.mem_map, List.mem_range] at h
  obtain ⟨k, ⟨j, hj, rfl⟩, rfl⟩ := h
  exact ⟨_, rfl, by omega, by omega⟩
theorem get_rangeN {lo hi : Int} {i : Nat} {d : D} (h : (intsI (rangeN lo hi)).ds[i]? = some d) : d = .int (lo + i) ∧ lo + i < hi := by
  simp only [intsI, rangeN, List.getElem?_map] at h
  by_cases hi' : i < (hi - lo).toNat
  · rw [List.getElem?_range hi'] at h
    simp at h
    exact ⟨h.symm, by omega⟩
  · rw [List.getElem?_eq_none (by simp; omega)] at h
    simp at h
theorem len_rangeN {lo hi : Int} : (intsI (rangeN lo hi)).ds.length = (hi - lo).toNat := by simp [intsI, rangeN]
end DL
namespace DL
open PySem PySem.Spec L2
open PyProof.Rows hiding St
theorem foldl_take {α β : Type} {f : β → α → β} {a : β} {xs : List α} {k : Nat} {x : α} (h : xs[k]? = some x) : (xs.take (k + 1)).foldl f a = f ((xs.take k).foldl f a) x := by
  rw [List.take_succ, h]; simp
theorem get_intsI {xs : List Int} {i : Nat} {d : D} (h : (intsI xs).ds[i]? = some d) : ∃ x, xs[i]? = some x ∧ d = .int x := by
  simp only [intsI, List.getElem?_map] at h
  cases e : xs[i]? with
  | none => rw [e] at h; cases h
  | some x => rw [e] at h; cases h; exact ⟨x, rfl, rfl⟩
theorem len_intsI {xs : List Int} : (intsI xs).ds.length = xs.length := by simp [intsI]
/-- == of lists of ints -/
theorem py_ints {n : Nat} {M : MS} : ∀ xs : List Int, mapO (pyN (n + 1) M) (xs.map D.int) = some (xs.map PyData.int)
  | [] => rfl
  | x :: xs => by
    have e : pyN (n + 1) M (.int x) = some (.int x) := rfl
    simp only [List.map_cons, mapO, e, py_ints xs]
theorem eqv_ints : ∀ xs ys : List Int, PyData.eqvAll (xs.map PyData.int) (ys.map PyData.int) = (xs == ys)
  | [], [] => rfl
  | [], _ :: _ => rfl
  | _ :: _, [] => rfl
  | x :: xs, y :: ys => by
    simp only [List.map_cons, PyData.eqvAll, PyData.eqv, eqv_ints xs ys]
    rfl
theorem shaped_ints (xs : List Int) : SeqAt.shaped (.list (xs.map PyData.int)) = true := by
  have h1 : ∀ xs : List Int, PyData.canLayAll0 (xs.map PyData.int) = true := fun xs => by
    induction xs with
    | nil => rfl
    | cons x xs ih => simp [PyData.canLayAll0, PyData.canLay0, ih]
  have h2 : ∀ xs : List Int, PyData.depthAll (xs.map PyData.int) = 0 := fun xs => by
    induction xs with
    | nil => rfl
    | cons x xs ih => simp [PyData.depthAll, PyData.depth, ih]
  unfold SeqAt.shaped
  simp [PyData.canLay0, PyData.depth, h1, h2]
theorem eqD_ints {neg : Bool} {M : MS} {xs ys : List Int} : eqD neg (.lst (xs.map D.int)) (.lst (ys.map D.int)) M = .ok (.bl ((xs == ys) != neg)) M := by
  unfold eqD
  rw [if_neg (by simp [eqSc])]
  unfold eqP
  have e1 : ∀ zs : List Int, pyD M (.lst (zs.map D.int)) = some (.list (zs.map PyData.int)) := fun zs => by
    show (mapO (pyN 29 M) (zs.map D.int)).map PyData.list = _
    rw [py_ints]; rfl
  rw [e1, e1]
  simp only [shaped_ints, and_self, if_true]
  rw [PyData.eqv, eqv_ints]
end DL

/-! DL: own operators: + - * | & ~ == != len str bool. -/
namespace DL
open PySem PySem.Spec L2
open PyProof.Rows hiding St

section
variable {X : Cx}
/-- the type of a value is looked up -/
theorem ty_looks {pins : List (Addr × Obj)} {st : St} {H : Hp} {s : Shared} {ro : Pl} {M : MS} (I : Inv X pins st H s) (R : RelS X.K X.mg ro M H) {d : D} {v : V} {u : Value} (rv : RelV v u) (r : Rep X.K X.mg ro H d v) {a : TN} (h : tnD M d = some a) :
    ∃ t, TNv X.mg a t ∧ PySem.W.Looks (model X.prog X.w) s.heap (typeOf u) t := by
  have ld : ∀ {x : Addr} {o : Obj} {c : Value}, s.heap.get? x = some o → o.cls = c → PySem.W.Looks (model X.prog X.w) s.heap (typeOf (.ref x)) c := fun {x o c} e hc A Q E s' k q => wpAny_typeOf_ref (k _ _ e) (by rw [hc]; exact q)
  have ins : ∀ {C : String} {x c dx : Addr} {gs : List (Str × V)}, X.mg (Str.ofString C) = some (.ref c) → H x = some (.ins c dx gs) → ∃ t, TNv X.mg (.c C) t ∧ PySem.W.Looks (model X.prog X.w) s.heap (typeOf (.ref x)) t := fun {C x c dx gs} g hH => by
    obtain ⟨mA, J, _⟩ := ins_get I.hok hH
    obtain ⟨od, J, _⟩ := J.look
    exact ⟨_, ⟨c, g, rfl⟩, J.type⟩
  have lsts : ∀ {x : Addr} {vs : List V}, SqL X.K H x vs → ∃ t, TNv X.mg (.b "list") t ∧ PySem.W.Looks (model X.prog X.w) s.heap (typeOf (.ref x)) t := fun {x vs} q => by
    obtain ⟨its, _, ⟨o, n, e, hc, _, _⟩, _⟩ := I.list q
    exact ⟨_, rfl, ld e hc⟩
  have dics : ∀ {x : Addr} {kvs : List (Key × V)}, H x = some (.dK kvs) → ∃ t, TNv X.mg (.b "dict") t ∧ PySem.W.Looks (model X.prog X.w) s.heap (typeOf (.ref x)) t := fun {x kvs} q => by
    obtain ⟨_, _, _, _, o, es, ep, h1, h2, _⟩ := (show ObjOk X.prog X.w H s.heap x (.dK kvs) from I.hok x _ q)
    exact ⟨_, rfl, ld h1 h2.1⟩
  cases d with
  | non => cases h; cases (show v = V.non from r); cases (show u = Value.none from rv); exact ⟨_, rfl, .of_pure rfl⟩
  | bl b => cases h; cases (show v = V.bl b from r); cases (show u = Value.bool b from rv); exact ⟨_, rfl, .of_pure rfl⟩
  | int i => cases h; cases (show v = V.int i from r); obtain ⟨t, e⟩ := (show ∃ t, u = Value.int i t from rv); cases e; exact ⟨_, rfl, .of_pure rfl⟩
  | str x => cases h; cases (show v = V.str (tx x) from r); obtain ⟨t, e⟩ := (show ∃ t, u = Value.str (tx x) t from rv); cases e; exact ⟨_, rfl, .of_pure rfl⟩
  | tup ds =>
    cases h
    obtain ⟨p, vs, rfl, q, rs⟩ := r
    cases (show u = Value.ref p from rv)
    obtain ⟨its, _, ⟨o, e, hc, _⟩, _⟩ := I.tuple q.sq
    exact ⟨_, rfl, ld e hc⟩
  | lst ds =>
    cases h
    obtain ⟨p, vs, rfl, q, _, rs⟩ := r
    cases (show u = Value.ref p from rv)
    exact lsts (SqL.of q)
  | flst ds =>
    cases h
    obtain ⟨p, vs, rfl, q, rs⟩ := r
    cases (show u = Value.ref p from rv)
    exact lsts q.sq
  | dic ks ds =>
    cases h
    obtain ⟨p, kl, vs, rfl, g, l, q, _, rs⟩ := r
    cases (show u = Value.ref p from rv)
    exact dics q
  | obj C ns ds =>
    cases h
    obtain ⟨p, c, dx, vs, rfl, g, q, _, l, rs⟩ := r
    cases (show u = Value.ref p from rv)
    exact ins g q
  | cell k =>
    have h : (match M[k]? with | some (.lst _) => some (TN.b "list") | some (.dic _ _) => some (.b "dict") | some (.obj C _ _) => some (.c C) | some (.tab ..) => none | none => none) = some a := h
    cases hm : M[k]? with
    | none => rw [hm] at h; cases h
    | some mo =>
      rw [hm] at h
      obtain ⟨p, ho, rfl, _, hH, m⟩ := R.cellAt r hm
      cases (show u = Value.ref p from rv)
      cases mo with
      | lst ds => cases h; obtain ⟨vs, rfl, _⟩ := m; exact lsts (SqL.of hH)
      | dic ks ds => cases h; obtain ⟨kl, vs, rfl, _⟩ := m; exact dics hH
      | obj C ns ds => cases h; obtain ⟨c, dx, vs, rfl, g, _⟩ := m; exact ins g hH
      | tab i C m => cases h
  | _ => cases h

variable {k : Nat} {f c : Addr} {fd : FuncData} {ps : List Str} {F : FM}
/-- an own method's run, no exception -/
theorem own_run {A : Around} {pins : List (Addr × Obj)} {st : St} {H : Hp} {s : Shared} {Q : VK} {us : List Value} {vs : List V} {ro : Pl} {ds : List D} {M : MS} (hF : DOk X.prog X.w X.K X.mg X.base k f fd ps F) (hA : A.frames = X.A.frames) (hr : Room k A) (hb : Binds X.K fd ps [])
    (I : Inv X pins st H s) (r : Vals vs us) (R : RelS X.K X.mg ro M H) (rs : Reps X.K X.mg ro H ds vs) (hl : ds.length = ps.length) (P : PostD X.K X.mg (fun _ _ _ => False) ro H Q (F ds M).ne) : wpAny (model X.prog X.w) A (call (.ref f) us) (EP X pins st Q) X.xe s :=
  run_DA (W := W0) (args := ⟨us, []⟩) (us := us) hF hA hr takes0 (by
    have := hb s us I.kIn (by rw [List.append_nil, ← r.length, ← rs.len]; exact hl)
    simpa using this) I r R rs hl (Post.noE P)
def ownR (x : Res D) (p : D → Bool) : Res D := x.ne.bind fun r M1 => if p r = true then .ok r M1 else .stuck
theorem ownR_post {K : PySem.W.Frag} {mg : Str → Option Value} {E : XK} {ro : Pl} {H : Hp} {Q : VK} {x : Res D} {p : D → Bool} (P : PostD K mg E ro H Q (ownR x p)) :
    PostD K mg (fun _ _ _ => False) ro H (fun z H' => ∃ ro' M' r, RelS K mg ro' M' H' ∧ Pres ro H ro' H' ∧ Rep K mg ro' H' r z ∧ p r = true ∧ Q z H') x.ne := by
  cases x with
  | stuck => exact P.elim
  | exc C ns es M' => exact P.elim
  | ok r M' =>
    unfold ownR at P
    rw [Res.ne_ok, Res.bind_ok] at P
    intro ro' H' z R' P' rz
    split at P
    · rename_i hp
      exact ⟨ro', M', r, R', P', rz, hp, P ro' H' z R' P' rz⟩
    · exact P.elim
theorem ownR_noE {K : PySem.W.Frag} {mg : Str → Option Value} {E E' : XK} {ro : Pl} {H : Hp} {Q : VK} {x : Res D} {p : D → Bool} (P : PostD K mg E ro H Q (ownR x p)) : PostD K mg E' ro H Q (ownR x p) := by
  cases x with
  | stuck => exact P.elim
  | exc C ns es M' => exact P.elim
  | ok r M' =>
    unfold ownR at P ⊢
    rw [Res.ne_ok, Res.bind_ok] at P ⊢
    by_cases hp : p r = true
    · rw [if_pos hp] at P ⊢; exact P
    · rw [if_neg hp] at P; exact P.elim
/-- a op b: the class's own def -/
def binO (C : String) (F : FM) (d e : D) (M : MS) : Res D := if isIns M C d = true ∧ isIns M C e = true then ownR (F [d, e] M) (fun _ => true) else .stuck
theorem opS_binO {C : String} {op : Operator} {nm : Str} (hnm : PySem.dunder op.info.2 = nm) (hc : X.mg (Str.ofString C) = some (.ref c)) (sf : PySem.W.selfFirst X.K c = true) (hs : PySem.W.findIn X.K (.ref c) nm = some (some (.ref f))) (hf : PySem.W.isFn X.K (.ref f) = true)
    (hb : Binds X.K fd ps []) (hF : DOk X.prog X.w X.K X.mg X.base k f fd ps F) (hr : Room k X.A) (hps : ps.length = 2 := by rfl) : OpS X (binaryOp op) (binO C F) := by
  refine ⟨fun x y H Q => ∃ ro M d e, RelS X.K X.mg ro M H ∧ Rep X.K X.mg ro H d x ∧ Rep X.K X.mg ro H e y ∧ PostD X.K X.mg (fun _ _ _ => False) ro H Q (binO C F d e M), ?_, fun ro H M d e x y E Q R rx ry P => ⟨ro, M, d, e, R, rx, ry, ?_⟩⟩
  · rintro pins s σ H x y v u Q I rx ry ⟨ro, M, d, e, R, qx, qy, P⟩
    unfold binO at P
    split at P
    · rename_i hi
      obtain ⟨a, c', dx, gs, rfl, hmg, hH⟩ := ins_is R qx hi.1
      rw [hc] at hmg; cases hmg
      obtain ⟨b, c', dy, gs', rfl, hmg', hH'⟩ := ins_is R qy hi.2
      rw [hc] at hmg'; cases hmg'
      obtain rfl : v = Value.ref a := rx
      obtain rfl : u = Value.ref b := ry
      obtain ⟨mA, J, _⟩ := ins_get I.hok hH
      obtain ⟨od, J, _⟩ := J.look
      obtain ⟨mB, J', _⟩ := ins_get I.hok hH'
      obtain ⟨od', J', _⟩ := J'.look
      obtain ⟨m, hFr⟩ := I.fr
      refine PySem.W.binop_K hFr I.ok.mod.kin J J'.type sf (by rw [hnm]; exact hs) hf ?_
      refine wpAny_mono (own_run (us := [.ref a, .ref b]) (vs := [.ref a, .ref b]) (ds := [d, e]) hF rfl hr hb I (.cons rfl (.cons rfl .nil)) R ⟨_, _, rfl, qx, Reps.one qy⟩ (by rw [hps]; rfl) (ownR_post P)) (fun w s' ⟨z, H', I', rz, _, _, _, _, _, _, _, q⟩ => ?_) fun _ _ x => x
      exact SlX.cmpback rz ⟨z, H', I', rz, q⟩
    · exact P.elim
  · unfold binO at P ⊢
    split at P
    · rename_i hi; rw [if_pos hi]; exact ownR_noE P
    · exact P.elim
/-- what stands right of an own == : of its class, or of a type that is not below it -/
structure EqRight (K : PySem.W.Frag) (mg : Str → Option Value) (C : String) (c : Addr) (okE : TN → Bool) : Prop where
  ok : ∀ a, okE a = true → ∀ t, TNv mg a t → PySem.W.notFirst K c t = true
def isTN (M : MS) (okE : TN → Bool) (e : D) : Bool := match tnD M e with
  | some a => okE a
  | none => false
def isBl : D → Bool
  | .bl _ => true
  | _ => false
/-- a == b: the class's own def -/
def eqO (C : String) (okE : TN → Bool) (F : FM) (d e : D) (M : MS) : Res D := if isIns M C d = true ∧ isTN M okE e = true then ownR (F [d, e] M) (fun _ => true) else .stuck
theorem opS_eqO {C : String} {okE : TN → Bool} (hc : X.mg (Str.ofString C) = some (.ref c)) (he : EqRight X.K X.mg C c okE) (hs : PySem.W.findIn X.K (.ref c) "__eq__" = some (some (.ref f))) (hf : PySem.W.isFn X.K (.ref f) = true)
    (hb : Binds X.K fd ps []) (hF : DOk X.prog X.w X.K X.mg X.base k f fd ps F) (hr : Room k X.A) (hps : ps.length = 2 := by rfl) : OpS X (compareOp .Eq) (eqO C okE F) := by
  refine ⟨fun x y H Q => ∃ ro M d e, RelS X.K X.mg ro M H ∧ Rep X.K X.mg ro H d x ∧ Rep X.K X.mg ro H e y ∧ PostD X.K X.mg (fun _ _ _ => False) ro H Q (eqO C okE F d e M), ?_, fun ro H M d e x y E Q R rx ry P => ⟨ro, M, d, e, R, rx, ry, ?_⟩⟩
  · rintro pins s σ H x y v u Q I rx ry ⟨ro, M, d, e, R, qx, qy, P⟩
    unfold eqO at P
    split at P
    · rename_i hi
      obtain ⟨a, c', dx, gs, rfl, hmg, hH⟩ := ins_is R qx hi.1
      rw [hc] at hmg; cases hmg
      obtain rfl : v = Value.ref a := rx
      obtain ⟨mA, J, _⟩ := ins_get I.hok hH
      obtain ⟨od, J, _⟩ := J.look
      obtain ⟨m, hFr⟩ := I.fr
      have hi2 := hi.2
      unfold isTN at hi2
      split at hi2
      · rename_i tn ht
        obtain ⟨t, tv, lk⟩ := ty_looks I R ry qy ht
        refine PySem.W.cmp_K (op := .Eq) (tb := t) hr.units0 hFr I.ok.mod.kin J lk (he.ok _ hi2 t tv) hs hf ?_
        refine wpAny_mono (own_run (us := [.ref a, u]) (vs := [.ref a, y]) (ds := [d, e]) hF rfl hr hb I (.cons rfl (.cons ry .nil)) R ⟨_, _, rfl, qx, Reps.one qy⟩ (by rw [hps]; rfl) (ownR_post P)) (fun w s' ⟨z, H', I', rz, _, _, _, _, _, _, _, q⟩ => ?_) fun _ _ x => x
        exact SlX.cmpback rz ⟨z, H', I', rz, q⟩
      · cases hi2
    · exact P.elim
  · unfold eqO at P ⊢
    split at P
    · rename_i hi; rw [if_pos hi]; exact ownR_noE P
    · exact P.elim
theorem ne_bind (self : Value) : bindSpecial (.builtin "object.__ne__") self = pure (.builtin "object.__ne__", [self]) :=
  (Slot.of (T := "object") (name := "__ne__") (owner := "object") (n := "__ne__") (by rw [typeLookup_type, builtinLookup_eq_fast]; kernel_rfl) (by decide +kernel) (by decide +kernel) (by decide +kernel)
    (.inl (by decide +kernel)) (by rw [isSubtype_type]; kernel_rfl)).bind self
theorem ne_plain : plainId "object.__ne__" = true := by decide +kernel
/-- a != b by object's own __ne__, over the class's own == -/
theorem ne_K {prog : Program} {w : World} {A : Around} {E : Value → Shared → Prop} {s : Shared} {K : PySem.W.Frag} {x C L f : Addr} {h0 : Heap} {m : Str → Option Value} {ox : Obj} {od : Option Obj} {b : Value} {tb : Value} {Q : Value → Shared → Prop} (hu : A.units + 2 < cLine) (FF : Fr h0 L s.heap m) (X0 : K.In h0) (I : PySem.W.InstAt s.heap x ox C od)
    (hb : PySem.W.Looks (model prog w) s.heap (typeOf b) tb) (hn : PySem.W.notFirst K C tb = true) (hne : PySem.W.findIn K (.ref C) "__ne__" = some (some (.builtin "object.__ne__"))) (hm : PySem.W.mroIn K C (.type "object") = some true)
    (hs : PySem.W.findIn K (.ref C) "__eq__" = some (some (.ref f))) (hf : PySem.W.isFn K (.ref f) = true)
    (h : wpAny (model prog w) A.in1 (call (.ref f) [.ref x, b]) (fun v s' => ∃ k, v = .bool k ∧ Q (.bool (!k)) s') E s) : wpAny (model prog w) A (richCompare .NotEq (.ref x) b) Q E s := by
  have XK := X0.keeps FF.keep
  have body : wpAny (model prog w) A.in1 (Builtin.«object.__ne__» ⟨[.ref x, b], []⟩) (fun fin s' => ∃ k, fin = .done (.ret (.bool k)) ∧ Q (.bool k) s') E s := by
    unfold Builtin.«object.__ne__»
    refine wpAny_bind (wpAny_pure ?_)
    refine wpAny_bind (wpAny_cRoomFor (by show A.units + 1 < cLine; omega) ?_)
    refine wpAny_bind (PySem.W.ifBound_K XK I hs hf (wpAny_mono h (fun v s' z => ?_) fun _ _ e => e))
    obtain ⟨k, rfl, q⟩ := z
    exact wpAny_bind (truthy_bl (wpAny_pure ⟨!k, rfl, q⟩))
  have tg : PySem.W.Looks (model prog w) s.heap (isInstance (.ref x) (.type "object")) true := I.type.andThen (PySem.W.looks_mroIn XK hm)
  have callNe : wpAny (model prog w) A (call (.builtin "object.__ne__") [.ref x, b]) (fun v s' => ∃ k, v = .bool k ∧ Q (.bool k) s') E s := by
    refine wpAny_call (codeAny_call_builtin ne_plain PySem.F.cmpEntry_ne (@PySem.W.check_slot (model prog w) _ _ s "object.__ne__" "object" "__ne__" (.ref x) [b] [] _ PySem.F.cmpKind_ne PySem.F.cmpSplit_ne tg (PySem.F.cmpArgs_ne _ _) ?_))
    refine wpAny_mono body (fun fin s' z => ?_) fun _ _ e => e
    obtain ⟨k, rfl, q⟩ := z
    exact ⟨k, rfl, q⟩
  have one : wpAny (model prog w) A (tryCompare (.ref x) (cmpInfo .NotEq).2.1 b) (fun r s' => ∃ v, r = some v ∧ Q v s') E s := by
    unfold tryCompare
    refine wpAny_bind ?_
    simp only [callSpecialIfBound?, bindSpecialIfBound?]
    have hne' : PySem.W.findIn K (.ref C) (cmpInfo CmpOp.NotEq).2.1 = some (some (.builtin "object.__ne__")) := hne
    refine wpAny_holding (wpAny_bind (wpAny_bind (wpAny_bind (I.type.here ((PySem.W.looks_findIn XK hne').here ?_)))))
    refine wpAny_bind (wpAny_askSetting (wpAny_ite ?_))
    have fin : wpAny (model prog w) A (call (.builtin "object.__ne__") ([.ref x] ++ [b]) >>= fun v => pure (some v)) (fun r s' => wpAny (model prog w) A (match r with | some .notImplemented | none => pure none | some v => pure (some v)) (fun r s' => ∃ v, r = some v ∧ Q v s') E s') E s :=
      wpAny_bind (wpAny_mono callNe (fun v s' z => wpAny_pure (by obtain ⟨k, rfl, q⟩ := z; exact wpAny_pure ⟨_, rfl, q⟩)) fun _ _ e => e)
    split
    · exact wpAny_bind (wpAny_of_eq (ne_bind _) (wpAny_pure (by exact fin)))
    · exact wpAny_tryCatch (wpAny_bind (wpAny_of_eq (ne_bind _) (wpAny_pure (by exact fin))))
  unfold richCompare
  simp only [oneThing_ref]
  refine wpAny_holding (wpAny_bind (wpAny_cRoomFor (by omega) ?_))
  refine wpAny_bind (I.type.here (wpAny_bind (hb.here ?_)))
  split
  · rename_i q
    have e : PySem.W.subIn K tb (.ref C) = some false := by
      rcases Bool.or_eq_true_iff.mp hn with e | e
      · rw [beq_iff_eq.mp e] at q; simp at q
      · exact beq_iff_eq.mp e
    refine wpAny_bind ((PySem.W.looks_subIn XK e).here ?_)
    simp only [Bool.false_eq_true, if_false]
    refine wpAny_bind (wpAny_mono one (fun r s' z => ?_) fun _ _ e => e)
    obtain ⟨v, rfl, hq⟩ := z
    exact wpAny_pure hq
  · refine wpAny_bind (wpAny_pure ?_)
    simp only [Bool.false_eq_true, if_false]
    refine wpAny_bind (wpAny_mono one (fun r s' z => ?_) fun _ _ e => e)
    obtain ⟨v, rfl, hq⟩ := z
    exact wpAny_pure hq
end
end DL
namespace DL
open PySem PySem.Spec L2
open PyProof.Rows hiding St
section
variable {X : Cx} {k : Nat} {f c : Addr} {fd : FuncData} {ps : List Str} {F : FM}
/-- a != b where the class has its own == alone -/
def neO (C : String) (okE : TN → Bool) (F : FM) (d e : D) (M : MS) : Res D := if isIns M C d = true ∧ isTN M okE e = true then (ownR (F [d, e] M) isBl).bind fun r M1 => match r with
  | .bl b => .ok (.bl (!b)) M1
  | _ => .stuck else .stuck
theorem neR_post {K : PySem.W.Frag} {mg : Str → Option Value} {E : XK} {ro : Pl} {H : Hp} {Q : VK} {x : Res D} (P : PostD K mg E ro H Q ((ownR x isBl).bind fun r M1 => match r with | .bl b => .ok (.bl (!b)) M1 | _ => .stuck)) :
    PostD K mg (fun _ _ _ => False) ro H (fun z H' => ∃ b, z = .bl b ∧ Q (.bl (!b)) H') x.ne := by
  cases x with
  | stuck => exact P.elim
  | exc C ns es M' => exact P.elim
  | ok r M' =>
    unfold ownR at P
    rw [Res.ne_ok, Res.bind_ok] at P
    cases r with
    | bl b =>
      intro ro' H' z R' P' rz
      cases (show z = V.bl b from rz)
      exact ⟨b, rfl, P ro' H' _ R' P' rfl⟩
    | _ => exact P.elim
theorem neR_noE {K : PySem.W.Frag} {mg : Str → Option Value} {E E' : XK} {ro : Pl} {H : Hp} {Q : VK} {x : Res D} (P : PostD K mg E ro H Q ((ownR x isBl).bind fun r M1 => match r with | .bl b => .ok (.bl (!b)) M1 | _ => .stuck)) :
    PostD K mg E' ro H Q ((ownR x isBl).bind fun r M1 => match r with | .bl b => .ok (.bl (!b)) M1 | _ => .stuck) := by
  cases x with
  | stuck => exact P.elim
  | exc C ns es M' => exact P.elim
  | ok r M' =>
    unfold ownR at P ⊢
    rw [Res.ne_ok, Res.bind_ok] at P ⊢
    cases r with
    | bl b => exact P
    | _ => exact P.elim
theorem opS_neO {C : String} {okE : TN → Bool} (hc : X.mg (Str.ofString C) = some (.ref c)) (he : EqRight X.K X.mg C c okE) (hs : PySem.W.findIn X.K (.ref c) "__eq__" = some (some (.ref f))) (hf : PySem.W.isFn X.K (.ref f) = true)
    (hne : PySem.W.findIn X.K (.ref c) "__ne__" = some (some (.builtin "object.__ne__"))) (hm : PySem.W.mroIn X.K c (.type "object") = some true)
    (hb : Binds X.K fd ps []) (hF : DOk X.prog X.w X.K X.mg X.base k f fd ps F) (hr : Room (k + 1) X.A) (hps : ps.length = 2 := by rfl) : OpS X (compareOp .NotEq) (neO C okE F) := by
  refine ⟨fun x y H Q => ∃ ro M d e, RelS X.K X.mg ro M H ∧ Rep X.K X.mg ro H d x ∧ Rep X.K X.mg ro H e y ∧ PostD X.K X.mg (fun _ _ _ => False) ro H Q (neO C okE F d e M), ?_, fun ro H M d e x y E Q R rx ry P => ⟨ro, M, d, e, R, rx, ry, ?_⟩⟩
  · rintro pins s σ H x y v u Q I rx ry ⟨ro, M, d, e, R, qx, qy, P⟩
    unfold neO at P
    split at P
    · rename_i hi
      obtain ⟨a, c', dx, gs, rfl, hmg, hH⟩ := ins_is R qx hi.1
      rw [hc] at hmg; cases hmg
      obtain rfl : v = Value.ref a := rx
      obtain ⟨mA, J, _⟩ := ins_get I.hok hH
      obtain ⟨od, J, _⟩ := J.look
      obtain ⟨m, hFr⟩ := I.fr
      have hi2 := hi.2
      unfold isTN at hi2
      split at hi2
      · rename_i tn ht
        obtain ⟨t, tv, lk⟩ := ty_looks I R ry qy ht
        have hr1 : Room k X.A.in1 := hr.in1
        refine ne_K (tb := t) (by have := hr.un; omega) hFr I.ok.mod.kin J lk (he.ok _ hi2 t tv) hne hm hs hf ?_
        refine wpAny_mono (own_run (A := X.A.in1) (us := [.ref a, u]) (vs := [.ref a, y]) (ds := [d, e]) hF rfl hr1 hb I (.cons rfl (.cons ry .nil)) R ⟨_, _, rfl, qx, Reps.one qy⟩ (by rw [hps]; rfl) (neR_post P)) (fun w s' ⟨z, H', I', rz, b, ez, q⟩ => ?_) fun _ _ x => x
        subst ez
        cases (show w = Value.bool b from rz)
        exact ⟨b, rfl, .bl (!b), H', I', rfl, q⟩
      · cases hi2
    · exact P.elim
  · unfold neO at P ⊢
    split at P
    · rename_i hi; rw [if_pos hi]; exact neR_noE P
    · exact P.elim
/-- ~a -/
def invO (C : String) (F : FM) (d : D) (M : MS) : Res D := if isIns M C d = true then ownR (F [d] M) (fun _ => true) else .stuck
theorem unS_invO {C : String} (hc : X.mg (Str.ofString C) = some (.ref c)) (hs : PySem.W.findIn X.K (.ref c) "__invert__" = some (some (.ref f))) (hf : PySem.W.isFn X.K (.ref f) = true)
    (hb : Binds X.K fd ps []) (hF : DOk X.prog X.w X.K X.mg X.base k f fd ps F) (hr : Room k X.A) (hps : ps.length = 1 := by rfl) : UnS X (unaryOp .Invert) (invO C F) := by
  refine ⟨fun x H Q => ∃ ro M d, RelS X.K X.mg ro M H ∧ Rep X.K X.mg ro H d x ∧ PostD X.K X.mg (fun _ _ _ => False) ro H Q (invO C F d M), ?_, fun ro H M d x E Q R rx P => ⟨ro, M, d, R, rx, ?_⟩⟩
  · rintro pins s σ H x v Q I rx ⟨ro, M, d, R, qx, P⟩
    unfold invO at P
    split at P
    · rename_i hi
      obtain ⟨a, c', dx, gs, rfl, hmg, hH⟩ := ins_is R qx hi
      rw [hc] at hmg; cases hmg
      obtain rfl : v = Value.ref a := rx
      obtain ⟨mA, J, _⟩ := ins_get I.hok hH
      obtain ⟨od, J, _⟩ := J.look
      obtain ⟨m, hFr⟩ := I.fr
      refine PySem.W.ksp_inv hFr I.ok.mod.kin J hs hf ?_
      exact wpAny_mono (own_run (us := [.ref a]) (vs := [.ref a]) (ds := [d]) hF rfl hr hb I (.cons rfl .nil) R (Reps.one qx) (by rw [hps]; rfl) (ownR_post P)) (fun w s' ⟨z, H', I', rz, _, _, _, _, _, _, _, q⟩ => ⟨z, H', I', rz, q⟩) fun _ _ x => x
    · exact P.elim
  · unfold invO at P ⊢
    split at P
    · rename_i hi; rw [if_pos hi]; exact ownR_noE P
    · exact P.elim
/-- len(a) -/
def isLen : D → Bool
  | .int i => decide (0 ≤ i ∧ i < 2 ^ 63)
  | _ => false
def isStrD : D → Bool
  | .str _ => true
  | _ => false
def call1O (C : String) (F : FM) (p : D → Bool) (ds : List D) (M : MS) : Res D := match ds with
  | [d] => if isIns M C d = true then ownR (F [d] M) p else .stuck
  | _ => .stuck
theorem callS_1O {C : String} {fv : Value} {nm : Str} {p : D → Bool} (hc : X.mg (Str.ofString C) = some (.ref c)) (hs : PySem.W.findIn X.K (.ref c) nm = some (some (.ref f))) (hf : PySem.W.isFn X.K (.ref f) = true)
    (rule : ∀ (pins : List (Addr × Obj)) (s : Shared) (σ : St) (H : Hp) (a : Addr) (od : Option Obj) (ox : Obj) (Q : VK), Inv X pins σ H s → PySem.W.InstAt s.heap a ox c od →
      (∀ A' : Around, A'.frames = X.A.frames → Room k A' → wpAny (model X.prog X.w) A' (call (.ref f) [.ref a]) (EP X pins σ fun z H' => ∃ ro' M' r, RelS X.K X.mg ro' M' H' ∧ Rep X.K X.mg ro' H' r z ∧ p r = true ∧ Q z H') X.xe s) → wpAny (model X.prog X.w) X.A (call fv [.ref a]) (EP X pins σ Q) X.xe s)
    (hb : Binds X.K fd ps []) (hF : DOk X.prog X.w X.K X.mg X.base k f fd ps F) (hps : ps.length = 1 := by rfl) : CallS X fv (call1O C F p) := by
  refine ⟨fun xs H Q => ∃ ro M ds, RelS X.K X.mg ro M H ∧ Reps X.K X.mg ro H ds xs ∧ PostD X.K X.mg (fun _ _ _ => False) ro H Q (call1O C F p ds M), ?_, fun ro H M ds xs E Q R rs P => ⟨ro, M, ds, R, rs, ?_⟩⟩
  · rintro pins s σ H xs us Q I rv ⟨ro, M, ds, R, rs, P⟩
    unfold call1O at P
    split at P
    · rename_i d
      obtain ⟨x, rfl, qx⟩ := reps1 rs
      obtain ⟨u, rfl, ru⟩ := vals1 rv
      split at P
      · rename_i hi
        obtain ⟨a, c', dx, gs, rfl, hmg, hH⟩ := ins_is R qx hi
        rw [hc] at hmg; cases hmg
        obtain rfl : u = Value.ref a := ru
        obtain ⟨mA, J, _⟩ := ins_get I.hok hH
        obtain ⟨od, J, _⟩ := J.look
        refine rule pins s σ H a _ _ Q I J fun A' hA' hr' => ?_
        exact wpAny_mono (own_run (A := A') (us := [.ref a]) (vs := [.ref a]) (ds := [d]) hF hA' hr' hb I (.cons rfl .nil) R (Reps.one qx) (by rw [hps]; rfl) (ownR_post P)) (fun w s' ⟨z, H', I', rz, ro', M', r, R', _, rr, hp, q⟩ => ⟨z, H', I', rz, ro', M', r, R', rr, hp, q⟩) fun _ _ x => x
      · exact P.elim
    · exact P.elim
  · unfold call1O at P ⊢
    split at P
    · split at P
      · rename_i hi; simp only [hi, if_true]; exact ownR_noE P
      · exact P.elim
    · exact P.elim
theorem callS_lenO {C : String} (hc : X.mg (Str.ofString C) = some (.ref c)) (hs : PySem.W.findIn X.K (.ref c) "__len__" = some (some (.ref f))) (hf : PySem.W.isFn X.K (.ref f) = true)
    (hb : Binds X.K fd ps []) (hF : DOk X.prog X.w X.K X.mg X.base k f fd ps F) (hr : Room (k + 1) X.A) (hps : ps.length = 1 := by rfl) : CallS X (.builtin "len") (call1O C F isLen) :=
  callS_1O hc hs hf (fun pins s σ H a od ox Q I J h => by
    obtain ⟨m, hFr⟩ := I.fr
    refine PySem.W.len_K hFr I.ok.mod.kin J hs hf (wpAny_mono (h X.A.in1 rfl hr.in1) (fun w s' ⟨z, H', I', rz, ro', M', r, R', rr, hp, q⟩ => ?_) fun _ _ x => x)
    cases r with
    | int i =>
      cases (show z = V.int i from rr)
      obtain ⟨t, e⟩ := (show ∃ t, w = Value.int i t from rz)
      cases e
      have hi := of_decide_eq_true hp
      exact ⟨hi, .int i, H', I'.tok _, ⟨_, rfl⟩, q⟩
    | _ => cases hp) hb hF hps
theorem callS_strO {C : String} (hc : X.mg (Str.ofString C) = some (.ref c)) (hs : PySem.W.findIn X.K (.ref c) "__str__" = some (some (.ref f))) (hf : PySem.W.isFn X.K (.ref f) = true)
    (hb : Binds X.K fd ps []) (hF : DOk X.prog X.w X.K X.mg X.base k f fd ps F) (hr : Room (k + 2) X.A) (hps : ps.length = 1 := by rfl) : CallS X (.type "str") (call1O C F isStrD) :=
  callS_1O hc hs hf (fun pins s σ H a od ox Q I J h => by
    have hr2 : Room k X.A.in1.in1 := (show Room (k + 1) X.A.in1 from hr.in1).in1
    refine PySem.W.kso_call hr2.units0 I.kIn J hs hf (wpAny_mono (h X.A.in1.in1 rfl hr2) (fun w s' ⟨z, H', I', rz, ro', M', r, R', rr, hp, q⟩ => ?_) fun _ _ x => x)
    cases r with
    | str y =>
      cases (show z = V.str (tx y) from rr)
      obtain ⟨t, e⟩ := (show ∃ t, w = Value.str (tx y) t from rz)
      cases e
      exact ⟨_, H', I', rz, q⟩
    | _ => cases hp) hb hF hps
/-- truth of an instance by its __bool__ -/
def truO (C : String) (F : FM) (d : D) (M : MS) : Res Bool := if isIns M C d = true then (F [d] M).ne.bind fun r M1 => match r with
  | .bl b => .ok b M1
  | _ => .stuck else .stuck
def truOB (C : String) (F : FM) (a : ME) : MB := fun sd M => (a sd M).bind fun d M1 => truO C F d M1
theorem tru_own {pins : List (Addr × Obj)} {σ : St} {H : Hp} {s : Shared} {A : Around} {C : String} {ro : Pl} {M : MS} {d : D} {v : V} {u : Value} {Q : Bool → Hp → Prop} {E : XK} (hc : X.mg (Str.ofString C) = some (.ref c)) (hs : PySem.W.findIn X.K (.ref c) "__bool__" = some (some (.ref f))) (hf : PySem.W.isFn X.K (.ref f) = true)
    (hb : Binds X.K fd ps []) (hF : DOk X.prog X.w X.K X.mg X.base k f fd ps F) (hA : A.frames = X.A.frames) (hr : Room k A) (I : Inv X pins σ H s) (rv : RelV v u) (R : RelS X.K X.mg ro M H) (r : Rep X.K X.mg ro H d v) (P : PostB X.K X.mg E ro H Q (truO C F d M)) (hps : ps.length = 1 := by rfl) :
    wpAny (model X.prog X.w) A (truthy u) (TP X pins σ Q) X.xe s := by
  unfold truO at P
  split at P
  · rename_i hi
    obtain ⟨a, c', dx, gs, rfl, hmg, hH⟩ := ins_is R r hi
    rw [hc] at hmg; cases hmg
    obtain rfl : u = Value.ref a := rv
    obtain ⟨mA, J, _⟩ := ins_get I.hok hH
    obtain ⟨od, J, _⟩ := J.look
    obtain ⟨m, hFr⟩ := I.fr
    have P2 : PostD X.K X.mg (fun _ _ _ => False) ro H (fun z H' => ∃ b, z = .bl b ∧ Q b H') (F [d] M).ne := by
      cases e : F [d] M with
      | stuck => rw [e] at P; exact P.elim
      | exc C' ns es M' => rw [e] at P; exact P.elim
      | ok r M' =>
        rw [e, Res.ne_ok, Res.bind_ok] at P
        cases r with
        | bl b =>
          intro ro' H' z R' P' rz
          cases (show z = V.bl b from rz)
          exact ⟨b, rfl, P ro' H' b R' P' rfl⟩
        | _ => exact P.elim
    refine PySem.W.truthy_K hFr I.ok.mod.kin J hs hf (wpAny_mono (own_run (A := A) (us := [.ref a]) (vs := [.ref a]) (ds := [d]) hF hA hr hb I (.cons rfl .nil) R (Reps.one r) (by rw [hps]; rfl) P2) (fun w s' ⟨z, H', I', rz, b, ez, q⟩ => ?_) fun _ _ x => x)
    subst ez
    cases (show w = Value.bool b from rz)
    exact ⟨H', I', q⟩
  · exact P.elim
theorem truO_noE {C : String} {K : PySem.W.Frag} {mg : Str → Option Value} {E E' : XK} {ro : Pl} {H : Hp} {Q : Bool → Hp → Prop} {d : D} {M : MS} (P : PostB K mg E ro H Q (truO C F d M)) : PostB K mg E' ro H Q (truO C F d M) := by
  unfold truO at P ⊢
  split at P
  · rename_i hi
    rw [if_pos hi]
    cases e : F [d] M with
    | stuck => rw [e] at P; exact P.elim
    | exc C' ns es M' => rw [e] at P; exact P.elim
    | ok r M' =>
      rw [e, Res.ne_ok, Res.bind_ok] at P
      rw [Res.ne_ok, Res.bind_ok]
      cases r with
      | bl b => exact P
      | _ => exact P.elim
  · exact P.elim
theorem dt_truO {W : WX} {e : Expr} {ma : ME} {C : String} (hc : X.mg (Str.ofString C) = some (.ref c)) (hs : PySem.W.findIn X.K (.ref c) "__bool__" = some (some (.ref f))) (hf : PySem.W.isFn X.K (.ref f) = true)
    (hb : Binds X.K fd ps []) (hF : DOk X.prog X.w X.K X.mg X.base k f fd ps F) (hr : Room k X.A) (h : DE X W e ma) (hps : ps.length = 1 := by rfl) (he : ∀ whole, isTrue e X.env whole = (do let v ← whole; standAt e.pos; holding [v] (truthy v)) := by intro _; rfl) : DT X W e (truOB C F ma) := by
  refine ⟨⟨fun pins s st H Q I q => isTrue_plain ?_ (he _)⟩⟩
  obtain ⟨ro, sd, M, R, S, P⟩ := q
  exact thn (h.pe.run pins s st H _ I ⟨ro, sd, M, R, S, Post.bind P⟩) fun v s1 ⟨x, H1, I1, r1, ro1, M1, d, R1, P1, rd, q1⟩ => tru_own hc hs hf hb hF rfl hr I1 r1 R1 rd q1 hps
end
end DL

/-! DL: bool(), str(), not over tests, list(), tuple(), slices, unpacking. -/
namespace DL
open PySem PySem.Spec L2
open PyProof.Rows hiding St
section
variable {X : Cx} {k : Nat} {f c : Addr} {fd : FuncData} {ps : List Str} {F : FM}
theorem boolT_call {prog : Program} {w : World} {A : Around} {E : Value → Shared → Prop} {s : Shared} {v : Value} {Q : Value → Shared → Prop} (h : wpAny (model prog w) A.in1.in1 (truthy v) (fun b s' => Q (.bool b) s') E s) : wpAny (model prog w) A (call (.type "bool") [v]) Q E s := by
  refine callType_codes (T := "bool") (Bi := Builtin.«object.__init__») (Q₁ := fun r s₁ => ∃ b, r = .bool b ∧ Q r s₁) PySem.F.called_bool (PySem.F.typeCall_bool_1 _) PySem.F.entry_object_init ?_ ?_
  · refine codeAny_of_tree ?_
    show wpAny _ A.in1.in1 (do checkBuiltinCall "bool.__new__" ⟨[.type "bool", v], []⟩; again (.builtin "bool.__new__" ⟨[.type "bool", v], []⟩)) _ _ s
    refine wpAny_bind (wpAny_of_eq (PySem.F.newCall_bool_1 _) (wpAny_pure ⟨plainId_quiet (by decide +kernel) _, codeAny_builtin PySem.F.entry_bool_new ?_⟩))
    rw [Around.under_plainId (by decide +kernel) _]
    have f1 := PySem.F.conv_sub_bool
    have tree : Builtin.«bool.__new__» ⟨[.type "bool", v], []⟩ = (do if !(← isSubtype (.type "bool") (.type "bool")) then
                                                                          (do rule "bool.__new__.no-subtype"; raiseError "TypeError" s!"bool.__new__({← typeName (.type "bool")}): {← typeName (.type "bool")} is not a subtype of bool")
                                                                      ret (.bool (← truthy v))) := by kernel_rfl
    rw [tree]
    refine wpAny_bind (wpAny_of_eq f1 ?_)
    refine wpAny_bind (wpAny_mono h (fun b s' q => ?_) fun _ _ x => x)
    exact wpAny_pure ⟨b, rfl, q⟩
  · rintro obj s₁ ⟨b, rfl, hq⟩
    exact ⟨PySem.typeIs_bool _ _, PySem.F.args_object_init_2 _ _, object_init_meets PySem.F.called_bool.init.lookup PySem.F.called_bool.made (by decide) prog w A.in1 _ s₁ ⟨PySem.typeIs_bool _ _, rfl, hq⟩⟩
/-! ### bool(x) -/
def boolSF (ds : List D) (M : MS) : Res D := match ds with
  | [.str x] => if x.length ≤ 1000000 then .ok (.bl ((x.length : Int) != 0)) M else .stuck
  | _ => .stuck
theorem callS_boolS : CallS X (.type "bool") boolSF := by
  refine ⟨fun xs H Q => ∃ y : Str, xs = [.str y] ∧ y.length ≤ sizeLine ∧ Q (.bl ((y.length : Int) != 0)) H, fun pins s σ H xs us Q I rv ⟨y, e, hl, q⟩ => ?_, fun ro H M ds xs E Q R rs P => ?_⟩
  · subst e
    obtain ⟨u, rfl, ru⟩ := vals1 rv
    obtain ⟨t, rfl⟩ := (show ∃ t, u = Value.str y t from ru)
    have h63 := line63
    exact boolT_call (PySem.P.truthy_str (by omega) ⟨.bl _, H, I.tok _, rfl, q⟩)
  · unfold boolSF at P
    split at P
    · rename_i x
      obtain ⟨v, rfl, rv⟩ := reps1 rs
      cases (show v = V.str (tx x) from rv)
      split at P
      · rename_i hl
        exact ⟨tx x, rfl, by simp only [Str.length, List.size_toArray]; exact line_le hl, by simpa [Str.length] using PostD.pure (d := .bl ((x.length : Int) != 0)) R rfl P⟩
      · exact P.elim
    · exact P.elim
def boolOF (C : String) (F : FM) (ds : List D) (M : MS) : Res D := match ds with
  | [d] => (truO C F d M).bind fun b M1 => .ok (.bl b) M1
  | _ => .stuck
theorem callS_boolO {C : String} (hc : X.mg (Str.ofString C) = some (.ref c)) (hs : PySem.W.findIn X.K (.ref c) "__bool__" = some (some (.ref f))) (hf : PySem.W.isFn X.K (.ref f) = true)
    (hb : Binds X.K fd ps []) (hF : DOk X.prog X.w X.K X.mg X.base k f fd ps F) (hr : Room (k + 2) X.A) (hps : ps.length = 1 := by rfl) : CallS X (.type "bool") (boolOF C F) := by
  refine ⟨fun xs H Q => ∃ ro M d x, xs = [x] ∧ RelS X.K X.mg ro M H ∧ Rep X.K X.mg ro H d x ∧ PostB X.K X.mg (fun _ _ _ => False) ro H (fun b H' => Q (.bl b) H') (truO C F d M), fun pins s σ H xs us Q I rv ⟨ro, M, d, x, e, R, rx, P⟩ => ?_, fun ro H M ds xs E Q R rs P => ?_⟩
  · subst e
    obtain ⟨u, rfl, ru⟩ := vals1 rv
    have hr2 : Room k X.A.in1.in1 := (show Room (k + 1) X.A.in1 from hr.in1).in1
    exact boolT_call (wpAny_mono (tru_own (A := X.A.in1.in1) hc hs hf hb hF rfl hr2 I ru R rx P hps) (fun b s' ⟨H', I', q⟩ => ⟨.bl b, H', I', rfl, q⟩) fun _ _ x => x)
  · unfold boolOF at P
    split at P
    · rename_i d
      obtain ⟨x, rfl, rx⟩ := reps1 rs
      refine ⟨ro, M, d, x, rfl, R, rx, truO_noE (E := E) ?_⟩
      refine (Post.bind P).imp fun b H1 ⟨ro1, M1, b', R1, P1, e, q1⟩ => ?_
      subst e
      exact PostD.pure (d := .bl b) R1 rfl q1
    · exact P.elim
/-! ### not, of a test -/
def notTE (t : MB) : ME := fun sd M => (t sd M).bind fun b M1 => .ok (.bl (!b)) M1
theorem de_notT {W : WX} {a : Expr} {pos : Pos} {ma : ME} (ha : DE X W a ma) : DE X W (.UnaryOp .Not a pos) (notTE (truB ma)) := by
  refine ⟨⟨fun pins s st H Q I q => (pe_notT ha.pe).run pins s st H Q I ?_⟩⟩
  obtain ⟨ro, sd, M, R, S, P⟩ := q
  unfold notTE truB at P
  have P : PostD X.K X.mg (fun c d H' => W c d st H') ro H Q (((ma sd M).bind _).bind _) := P
  refine ⟨ro, sd, M, R, S, ?_⟩
  cases e : ma sd M with
  | stuck => rw [e] at P; exact P
  | exc C ns ds M1 => rw [e] at P; exact P
  | ok d M1 =>
    rw [e, Res.bind_ok] at P
    intro ro1 H1 x R1 P1 r1
    cases ht : truD M1 d with
    | none => rw [ht] at P; exact P.elim
    | some b =>
      rw [ht] at P
      exact ⟨b, tru_of R1 r1 ht, P ro1 H1 _ R1 P1 rfl⟩
theorem de_notO {W : WX} {a : Expr} {pos : Pos} {ma : ME} {C : String} (hc : X.mg (Str.ofString C) = some (.ref c)) (hs : PySem.W.findIn X.K (.ref c) "__bool__" = some (some (.ref f))) (hf : PySem.W.isFn X.K (.ref f) = true)
    (hb : Binds X.K fd ps []) (hF : DOk X.prog X.w X.K X.mg X.base k f fd ps F) (hr : Room k X.A) (ha : DE X W a ma) (hps : ps.length = 1 := by rfl) : DE X W (.UnaryOp .Not a pos) (notTE (truOB C F ma)) := by
  refine ⟨⟨fun pins s st H Q I q => ?_⟩⟩
  obtain ⟨ro, sd, M, R, S, P⟩ := q
  have P : PostD X.K X.mg (fun c d H' => W c d st H') ro H Q (((ma sd M).bind fun d M1 => truO C F d M1).bind fun b M1 => .ok (.bl (!b)) M1) := P
  have P2 := Post.bind (R := fun _ _ (b : Bool) c => c = b) P
  refine UnaryOp_ (thn (ha.pe.run pins s st H _ I ⟨ro, sd, M, R, S, Post.bind P2⟩) fun v s1 ⟨x, H1, I1, r1, ro1, M1, d, R1, P1, rd, q1⟩ => ?_)
  refine not_of (thn (tru_own (A := X.A) hc hs hf hb hF rfl hr I1 r1 R1 rd q1 hps) fun b s2 ⟨H2, I2, ro2, M2, b', R2, P2, e, q2⟩ => ?_)
  subst e
  exact ⟨.bl (!b), H2, I2, rfl, PostD.pure (d := .bl (!b)) R2 rfl q2⟩
/-! ### slices -/
def cutL {α : Type} (xs : List α) (lo hi : Option Int) : List α := (xs.drop (HT.sIx xs.length 0 lo)).take (HT.sIx xs.length xs.length hi - HT.sIx xs.length 0 lo)
abbrev MO' := SD → MS → Res (Option Int)
def noO : MO' := fun _ M => .ok none M
def soO (m : ME) : MO' := fun sd M => (m sd M).bind fun d M1 => match d with
  | .int i => .ok (some i) M1
  | _ => .stuck
structure DO (X : Cx) (W : WX) (e : Option Expr) (m : MO') : Prop where
  po : PO X e (fun st H Q => ∃ ro sd M, RelS X.K X.mg ro M H ∧ RepSt X.K X.mg ro H sd st ∧ Post (fun _ _ (o : Option Int) c => c = o) X.K X.mg (fun c d H' => W c d st H') ro H Q (m sd M))
theorem do_none {W : WX} : DO X W none noO := by
  refine ⟨⟨fun pins s st H Q I q => po_none.run pins s st H Q I ?_⟩⟩
  obtain ⟨ro, sd, M, R, S, P⟩ := q
  exact P ro H none R (Pres.refl _ _) rfl
theorem do_some {W : WX} {e : Expr} {m : ME} (h : DE X W e m) : DO X W (some e) (soO m) := by
  refine ⟨⟨fun pins s st H Q I q => (po_some h.pe).run pins s st H Q I ?_⟩⟩
  obtain ⟨ro, sd, M, R, S, P⟩ := q
  refine ⟨ro, sd, M, R, S, (Post.bind P).imp fun x H1 ⟨ro1, M1, d, R1, P1, r1, q1⟩ => ?_⟩
  cases d with
  | int i => cases (show x = V.int i from r1); exact ⟨i, rfl, q1 ro1 H1 _ R1 (Pres.refl _ _) rfl⟩
  | _ => exact q1.elim
def sliceD (d : D) (lo hi : Option Int) (M : MS) : Res D := match d with
  | .str x => if x.length ≤ 1000000 then .ok (.str (cutL x lo hi)) M else .stuck
  | .tup ds => .ok (.tup (cutL ds lo hi)) M
  | d => match seqOf M d with
    | some ds => .ok (.lst (cutL ds lo hi)) M
    | none => .stuck
def slE (mo : ME) (lo hi : MO') : ME := fun sd M => (mo sd M).bind fun d M1 => (lo sd M1).bind fun l M2 => (hi sd M2).bind fun h M3 => sliceD d l h M3
theorem Reps.cut {K : PySem.W.Frag} {mg : Str → Option Value} {ro : Pl} {H : Hp} {ds : List D} {vs : List V} (h : Reps K mg ro H ds vs) (lo hi : Option Int) : Reps K mg ro H (cutL ds lo hi) (cutV vs lo hi) := by
  unfold cutL cutV
  rw [h.len]
  exact (h.drop _).take _
theorem cutS_tx (x : List Nat) (lo hi : Option Int) : cutS (tx x) lo hi = tx (cutL x lo hi) := by
  unfold cutS cutL
  simp [Str.length]
theorem seq_list {K : PySem.W.Frag} {mg : Str → Option Value} {ro : Pl} {H : Hp} {M : MS} (R : RelS K mg ro M H) {d : D} {x : V} {ds : List D} (r : Rep K mg ro H d x) (e : seqOf M d = some ds) (hn : isTup d = false) : ∃ a vs, x = .ref a ∧ SqL K H a vs ∧ Reps K mg ro H ds vs := by
  cases d with
  | lst es => cases (show some es = some ds from e); obtain ⟨a, vs, rfl, h, _, q⟩ := r; exact ⟨a, vs, rfl, SqL.of h, q⟩
  | flst es => cases (show some es = some ds from e); obtain ⟨a, vs, rfl, h, q⟩ := r; exact ⟨a, vs, rfl, h.sq, q⟩
  | tup es => cases hn
  | cell n =>
    obtain ⟨a, vs, rfl, h, q⟩ := lst_of R r e
    exact ⟨a, vs, rfl, SqL.of h, q⟩
  | _ => cases e
theorem de_sl {W : WX} {e : Expr} {lo hi : Option Expr} {mo : ME} {ml mh : MO'} {pos p2 : Pos} (he : DE X W e mo) (hl : DO X W lo ml) (hh : DO X W hi mh) : DE X W (.Subscript e (.Slice lo hi none p2) pos) (slE mo ml mh) := by
  refine ⟨⟨fun pins s st H Q I q => (pe_slice (SlR.or sl_list (SlR.or sl_tupA sl_str)) he.pe hl.po hh.po).run pins s st H Q I ?_⟩⟩
  obtain ⟨ro, sd, M, R, S, P⟩ := q
  refine ⟨ro, sd, M, R, S, (Post.bind P).imp fun x H1 ⟨ro1, M1, d, R1, P1, r1, q1⟩ => ?_⟩
  refine ⟨ro1, sd, M1, R1, S.mono P1, (Post.bind (R := fun _ _ (o : Option Int) c => c = o) q1).imp fun l H2 ⟨ro2, M2, l', R2, P2, r2, q2⟩ => ?_⟩
  subst r2
  refine ⟨ro2, sd, M2, R2, (S.mono P1).mono P2, (Post.bind (R := fun _ _ (o : Option Int) c => c = o) q2).imp fun h H3 ⟨ro3, M3, h', R3, P3, r3, q3⟩ => ?_⟩
  subst r3
  have rx := Rep.mono P3 _ _ (Rep.mono P2 _ _ r1)
  have fin : ∀ ds, seqOf M3 d = some ds → isTup d = false → PostD X.K X.mg (fun c d H' => W c d st H') ro3 H3 Q (.ok (.lst (cutL ds l h)) M3) → rSlL X.K x l h H3 Q := fun ds hs ht P' => by
    obtain ⟨a, vs, rfl, q, rs⟩ := seq_list R3 rx hs ht
    exact ⟨a, vs, rfl, q, PostD.newL R3 (rs.cut l h) P'⟩
  cases d with
  | str z =>
    have q3 : PostD X.K X.mg (fun c d H' => W c d st H') ro3 H3 Q (if z.length ≤ 1000000 then .ok (.str (cutL z l h)) M3 else .stuck) := q3
    cases (show x = V.str (tx z) from rx)
    split at q3
    · rename_i hz
      exact .inr (.inr ⟨tx z, rfl, by simp only [Str.length, List.size_toArray]; exact line_le hz, by rw [cutS_tx]; exact PostD.pure (d := .str (cutL z l h)) R3 rfl q3⟩)
    · exact q3.elim
  | tup ds =>
    have q3 : PostD X.K X.mg (fun c d H' => W c d st H') ro3 H3 Q (.ok (.tup (cutL ds l h)) M3) := q3
    obtain ⟨a, vs, rfl, q, rs⟩ := id rx
    refine .inr (.inl ⟨a, vs, rfl, q.sq, fun hw => ?_, fun _ => PostD.newT R3 (rs.cut l h) q3⟩)
    have e : cutL ds l h = ds := by
      unfold cutL
      rw [rs.len, hw.1, hw.2, List.drop_zero, Nat.sub_zero, ← rs.len, List.take_length]
    rw [e] at q3
    exact PostD.pure R3 rx q3
  | lst ds => exact .inl (fin ds rfl rfl q3)
  | flst ds => exact .inl (fin ds rfl rfl q3)
  | cell n =>
    have q3 : PostD X.K X.mg (fun c d H' => W c d st H') ro3 H3 Q (match seqOf M3 (.cell n) with | some ds => .ok (.lst (cutL ds l h)) M3 | none => .stuck) := q3
    cases hs : seqOf M3 (.cell n) with
    | none => rw [hs] at q3; exact q3.elim
    | some ds => rw [hs] at q3; exact .inl (fin ds hs rfl q3)
  | _ => exact q3.elim
/-- xs[::-1] of a list -/
def revE (mo : ME) : ME := fun sd M => (mo sd M).bind fun d M1 => if isTup d = true then .stuck else match seqOf M1 d with
  | some ds => .ok (.lst ds.reverse) M1
  | none => .stuck
theorem de_rev {W : WX} {e : Expr} {mo : ME} {k : Nat} {p1 p2 p3 pos : Pos} (he : DE X W e mo) : DE X W (.Subscript e (.Slice none none (some (.UnaryOp .USub (.Constant (.int 1) k p1) p2)) p3) pos) (revE mo) := by
  refine ⟨⟨fun pins s st H Q I q => (pe_revL he.pe).run pins s st H Q I ?_⟩⟩
  obtain ⟨ro, sd, M, R, S, P⟩ := q
  refine ⟨ro, sd, M, R, S, (Post.bind P).imp fun x H1 ⟨ro1, M1, d, R1, P1, r1, q1⟩ => ?_⟩
  split at q1
  · exact q1.elim
  · rename_i ht
    split at q1
    · rename_i ds hs
      obtain ⟨a, vs, rfl, q, rs⟩ := seq_list R1 r1 hs (by simpa using ht)
      exact ⟨a, vs, rfl, q, PostD.newL R1 rs.rev q1⟩
    · exact q1.elim
/-! ### list(x), tuple(x), str(text) -/
def listF (ds : List D) (M : MS) : Res D := match ds with
  | [d] => (match seqOf M d with
    | some es => .ok (.lst es) M
    | none => .stuck)
  | _ => .stuck
def listCF (ds : List D) (M : MS) : Res D := match ds with
  | [d] => (match seqOf M d with
    | some es => .ok (.cell M.length) (M ++ [.lst es])
    | none => .stuck)
  | _ => .stuck
def tupleF (ds : List D) (M : MS) : Res D := match ds with
  | [d] => (match seqOf M d with
    | some es => .ok (.tup es) M
    | none => .stuck)
  | _ => .stuck
def strSF (ds : List D) (M : MS) : Res D := match ds with
  | [.str x] => .ok (.str x) M
  | _ => .stuck
theorem callS_list : CallS X (.type "list") listF := by
  refine ⟨_, call_list_of, fun ro H M ds xs E Q R rs P => ?_⟩
  unfold listF at P
  split at P
  · split at P
    · rename_i es he
      obtain ⟨v, rfl, rv⟩ := reps1 rs
      obtain ⟨a, vs, rfl, q, qs⟩ := seq_of R rv he
      exact ⟨a, vs, rfl, q, PostD.newL R qs P⟩
    · exact P.elim
  · exact P.elim
theorem callS_listC : CallS X (.type "list") listCF := by
  refine ⟨_, call_list_of, fun ro H M ds xs E Q R rs P => ?_⟩
  unfold listCF at P
  split at P
  · split at P
    · rename_i es he
      obtain ⟨v, rfl, rv⟩ := reps1 rs
      obtain ⟨a, vs, rfl, q, qs⟩ := seq_of R rv he
      exact ⟨a, vs, rfl, q, PostD.newC R qs P⟩
    · exact P.elim
  · exact P.elim
theorem callS_tuple : CallS X (.type "tuple") tupleF := by
  refine ⟨_, call_tuple_of, fun ro H M ds xs E Q R rs P => ?_⟩
  unfold tupleF at P
  split at P
  · rename_i d
    split at P
    · rename_i es he
      obtain ⟨v, rfl, rv⟩ := reps1 rs
      by_cases ht : isTup d = true
      · cases d with
        | tup ds =>
          cases (show some ds = some es from he)
          obtain ⟨a, vs, rfl, q, qs⟩ := id rv
          exact ⟨a, vs, rfl, .inr ⟨q.sq, PostD.pure R rv P⟩⟩
        | _ => cases ht
      · obtain ⟨a, vs, rfl, q, qs⟩ := seq_list R rv he (by simpa using ht)
        exact ⟨a, vs, rfl, .inl ⟨q, PostD.newT R qs P⟩⟩
    · exact P.elim
  · exact P.elim
theorem callS_strS : CallS X (.type "str") strSF := by
  refine ⟨_, SkE.call_str_str, fun ro H M ds xs E Q R rs P => ?_⟩
  unfold strSF at P
  split at P
  · obtain ⟨v, rfl, rv⟩ := reps1 rs
    cases (show v = V.str _ from rv)
    exact ⟨_, rfl, PostD.pure (d := .str _) R rfl P⟩
  · exact P.elim
theorem CallS.or {fv : Value} {f g : List D → MS → Res D} (hf : CallS X fv f) (hg : CallS X fv g) (h : List D → MS → Bool) : CallS X fv (fun ds M => if h ds M = true then f ds M else g ds M) := by
  obtain ⟨r, h1, h2⟩ := hf
  obtain ⟨r', h1', h2'⟩ := hg
  refine ⟨_, CallR.or h1 h1', fun ro H M ds xs E Q R rs P => ?_⟩
  dsimp only at P
  by_cases hc : h ds M = true
  · rw [if_pos hc] at P; exact .inl (h2 ro H M ds xs E Q R rs P)
  · rw [if_neg hc] at P; exact .inr (h2' ro H M ds xs E Q R rs P)
/-! ### a, b, .. = a tuple, a list -/
structure DGs (X : Cx) (ts : List Expr) (is : List Nat) : Prop where
  pgs : PGs X ts (fun vs st H Q => ∃ ro M sd ds, RelS X.K X.mg ro M H ∧ RepSt X.K X.mg ro H sd st ∧ Reps X.K X.mg ro H ds vs ∧ ∃ sd', setAll is ds sd = some sd' ∧ ∀ st', RepSt X.K X.mg ro H sd' st' → (∀ ws : List Nat, (∀ i, i ∈ is → i ∈ ws) → wipe st' ws = wipe st ws) → Q st' H)
theorem dgs_nil : DGs X [] [] := by
  refine ⟨⟨fun pins s st H vs us Q I r q => pgs_nil.run pins s st H vs us Q I r ?_⟩⟩
  obtain ⟨ro, M, sd, ds, R, S, rs, sd', e, q⟩ := q
  cases ds with
  | nil => cases (show vs = [] from rs); cases e; exact ⟨rfl, q st S fun _ _ => rfl⟩
  | cons d ds => cases e
theorem dgs_cons {i : Nat} {is : List Nat} {x : Str} {pos : Pos} {es : List Expr} (hr : DGs X es is) (hN : X.N.Nodup) (hi : X.N[i]? = some x := by rfl) (hx : Loc X.env.scope x := by first | exact Or.inl rfl | exact Or.inr rfl)
    (hf : X.fn x = true ∨ X.env.scope.names.lookup x = some .local := by first | exact .inl rfl | exact .inr rfl | assumption) (hs : (assignEach (.Name x pos :: es) X.env).map (·.2) = assign (.Name x pos) X.env :: (assignEach es X.env).map (·.2) := by rfl) : DGs X (.Name x pos :: es) (i :: is) := by
  refine ⟨⟨fun pins s st H vs us Q I r q => (pgs_cons (pg_name hN hi hx hf) hr.pgs hs).run pins s st H vs us Q I r ?_⟩⟩
  obtain ⟨ro, M, sd, ds, R, S, rs, sd', e, q⟩ := q
  cases ds with
  | nil => cases e
  | cons d ds =>
    obtain ⟨v, w, rfl, rd, rt⟩ := rs
    refine ⟨v, w, rfl, ro, M, sd.set i (some d), ds, R, S.set rd, rt, sd', e, fun st' S' hw => q st' S' fun ws h => ?_⟩
    rw [hw ws (fun j hj => h j (List.mem_cons_of_mem _ hj))]
    exact wipe_set st (h i List.mem_cons_self)
theorem dg_tup {es : List Expr} {is : List Nat} {kk : Nat} {pos : Pos} (hc : X.calm = true) (h : DGs X es is) (hn : (assignEach es X.env).length = is.length := by rfl) (hst : (assignEach es X.env).findIdx? (·.1) = none := by rfl) : DG X (.Tuple es kk pos) (tupG is) is := by
  refine ⟨⟨fun pins s st H v u Q I r q => (pg_tup (n := is.length) hc h.pgs hn hst).run pins s st H v u Q I r ?_⟩⟩
  obtain ⟨ro, sd, M, d, R, S, rd, sd', e, q⟩ := q
  cases d with
  | tup ds =>
    obtain ⟨a, vs, rfl, hq, rs⟩ := rd
    have hl : ∀ (is : List Nat) (ds : List D) (sd : SD) {sd' : SD}, setAll is ds sd = some sd' → ds.length = is.length := by
      intro is
      induction is with
      | nil => intro ds sd sd' h; cases ds with | nil => rfl | cons _ _ => cases h
      | cons i is ih => intro ds sd sd' h; cases ds with | nil => cases h | cons d ds => simpa using ih ds _ h
    exact ⟨a, vs, rfl, hq.sq, by rw [← rs.len]; exact hl is ds sd e, ro, M, sd, ds, R, S, rs, sd', e, q⟩
  | _ => cases e
def lstG (is : List Nat) (M : MS) : MG := fun d sd => match seqOf M d with
  | some ds => if isTup d = true then none else setAll is ds sd
  | none => none
def unpS (g : MG) (m : ME) : MST := fun sd M => SRes.ofE (m sd M) sd fun d M1 => match g d sd with
  | some sd' => .nx sd' M1
  | none => .stuck
theorem ds_unp {W : WX} {tg e : Expr} {g : MG} {ix : List Nat} {m : ME} {pos : Pos} (he : DE X W e m) (hg : DG X tg g ix) (hs : swapsWithSole [tg] e pos.line X.env = pure false := by rfl) (hw : swappedStores [tg] e X.env = pure none := by rfl)
    (h1 : (assignEach [tg] X.env).map (·.2) = [assign tg X.env] := by rfl) : DS X W (.Assign [tg] e pos) (unpS g m) := by
  refine ⟨⟨fun pins s st H D0 I q => (ps_asg he.pe hg.pg hs hw h1).run pins s st H D0 I ?_⟩⟩
  obtain ⟨ro, sd, M, R, S, P⟩ := q
  refine ⟨ro, sd, M, R, S, (PostS.ofE P S).imp fun x H1 ⟨ro1, M1, d, R1, P1, r1, q1⟩ => ?_⟩
  split at q1
  · rename_i sd' e
    exact ⟨ro1, sd, M1, d, R1, S.mono P1, r1, sd', e, fun st' S' _ => q1 ro1 H1 _ R1 (Pres.refl _ _) S'⟩
  · exact q1.elim
/-! ### enumerate, reversed -/
def enumD : Nat → List D → List D
  | _, [] => []
  | i, d :: r => .tup [.int (i : Int), d] :: enumD (i + 1) r
theorem enumD_get : ∀ (ds : List D) (i j : Nat) (d : D), (enumD i ds)[j]? = some d → ∃ x, ds[j]? = some x ∧ d = .tup [.int ((i + j : Nat) : Int), x]
  | [], i, j, d, h => by simp [enumD] at h
  | x :: r, i, 0, d, h => by simp [enumD] at h; exact ⟨x, rfl, h.symm⟩
  | x :: r, i, j + 1, d, h => by
    simp [enumD] at h
    obtain ⟨y, hy, e⟩ := enumD_get r (i + 1) j d h
    exact ⟨y, by simpa using hy, by rw [e]; congr 3; omega⟩
theorem enumD_len : ∀ (ds : List D) (i : Nat), (enumD i ds).length = ds.length
  | [], _ => rfl
  | x :: r, i => by simp [enumD, enumD_len r]
def lchk (M : MS) (d : D) : MS → Prop := fun M' => seqOf M' d = seqOf M d
def enumI (m : ME) : MI := fun sd M => (m sd M).bind fun d M1 => if isTup d = true then .stuck else match seqOf M1 d with
  | some ds => .ok ⟨enumD 0 ds, lchk M1 d⟩ M1
  | none => .stuck
def revI (m : ME) : MI := fun sd M => (m sd M).bind fun d M1 => if isTup d = true then .stuck else match seqOf M1 d with
  | some ds => .ok ⟨ds.reverse, lchk M1 d⟩ M1
  | none => .stuck
theorem di_enum {W : WX} {e : Expr} {m : ME} {p pos tpos : Pos} {elts : List Expr} {kk : Nat} (hg : Gl X "enumerate") (hm : X.mg "enumerate" = none) (h : DE X W e m) (hs : starEach [e] X.env = [(false, eval e X.env)] := by rfl) (hs2 : starEach [e] X.env = (false, eval e X.env) :: starEach [] X.env := by rfl) :
    DI X W (.Tuple elts kk tpos) (.Call (.Name "enumerate" p) [e] [] pos) (enumI m) := by
  refine ⟨⟨fun pins s st H Q I q => (pi_enum hg hm (da_cons h da_nil hs2).pa hs).run pins s st H Q I ?_⟩⟩
  obtain ⟨ro, sd, M, R, S, P⟩ := q
  refine ⟨ro, sd, M, R, S, ?_⟩
  have P : Post _ X.K X.mg (fun c d H' => W c d st H') ro H Q ((m sd M).bind _) := P
  unfold consA
  cases em : m sd M with
  | stuck => rw [em] at P; exact P.elim
  | exc C ns ds M1 => rw [em] at P; exact P
  | ok d M1 =>
    rw [em, Res.bind_ok] at P
    rintro ro1 H1 xs R1 P1 rs
    obtain ⟨x, rfl, rx⟩ := reps1 rs
    split at P
    · exact P.elim
    · rename_i ht
      have ht : isTup d = false := by simpa using ht
      split at P
      · rename_i ds hs'
        obtain ⟨a, vs, rfl, hq, q'⟩ := seq_list R1 rx hs' ht
        refine ⟨a, vs, rfl, hq, P ro1 H1 _ R1 P1 fun ro' H' M' R' P' hM => ?_⟩
        have hM : seqOf M' d = some ds := by rw [← hs']; exact hM
        obtain ⟨a', vs', e', hq', rs'⟩ := seq_list R' (Rep.monoW P' _ _ rx) hM ht
        cases e'
        refine ⟨⟨vs', hq', by rw [enumD_len, rs'.len]; exact Nat.le_refl _⟩, fun i z hz => ?_⟩
        obtain ⟨y, hy, rfl⟩ := enumD_get ds 0 i z hz
        obtain ⟨v, hv, rv⟩ := rs'.get hy
        refine ⟨⟨vs', v, hq', hv⟩, fun w H'' ⟨T, y', ew, hT, eH, hall⟩ => ?_⟩
        subst ew eH
        have ey := hall vs' hq'
        rw [hv] at ey
        cases ey
        obtain ⟨R2, P2⟩ := R'.alloc (o := .tup [.int (i : Nat), v]) hT
        refine ⟨fun b o h => upd_grow hT b o h, ⟨T, [.int (i : Nat), v], rfl, .inl ⟨.inl upd_same, R'.fresh hT⟩, ?_⟩⟩
        exact ⟨_, _, rfl, by rw [Nat.zero_add]; rfl, Reps.one (Rep.mono P2 _ _ rv)⟩
      · exact P.elim
theorem di_rev {W : WX} {tg e : Expr} {m : ME} {p pos : Pos} (hg : Gl X "reversed") (hm : X.mg "reversed" = none) (h : DE X W e m) (hs : starEach [e] X.env = [(false, eval e X.env)] := by rfl) (hs2 : starEach [e] X.env = (false, eval e X.env) :: starEach [] X.env := by rfl) :
    DI X W tg (.Call (.Name "reversed" p) [e] [] pos) (revI m) := by
  refine ⟨⟨fun pins s st H Q I q => (pi_reversed hg hm (da_cons h da_nil hs2).pa hs).run pins s st H Q I ?_⟩⟩
  obtain ⟨ro, sd, M, R, S, P⟩ := q
  refine ⟨ro, sd, M, R, S, ?_⟩
  have P : Post _ X.K X.mg (fun c d H' => W c d st H') ro H Q ((m sd M).bind _) := P
  unfold consA
  cases em : m sd M with
  | stuck => rw [em] at P; exact P.elim
  | exc C ns ds M1 => rw [em] at P; exact P
  | ok d M1 =>
    rw [em, Res.bind_ok] at P
    rintro ro1 H1 xs R1 P1 rs
    obtain ⟨x, rfl, rx⟩ := reps1 rs
    split at P
    · exact P.elim
    · rename_i ht
      have ht : isTup d = false := by simpa using ht
      split at P
      · rename_i ds hs'
        obtain ⟨a, vs, rfl, hq, q'⟩ := seq_list R1 rx hs' ht
        refine ⟨a, vs, rfl, hq, P ro1 H1 _ R1 P1 fun ro' H' M' R' P' hM => ?_⟩
        have hM : seqOf M' d = some ds := by rw [← hs']; exact hM
        obtain ⟨a', vs', e', hq', rs'⟩ := seq_list R' (Rep.monoW P' _ _ rx) hM ht
        cases e'
        have hl : vs.length = ds.length := q'.len.symm
        have hl' : vs'.length = ds.length := rs'.len.symm
        refine ⟨by show vs.length ≤ ds.reverse.length; simp [hl], fun i z hz => ?_⟩
        have hi : i < ds.length := by simpa using (List.getElem?_eq_some_iff.mp hz).1
        have hz' : ds[ds.length - 1 - i]? = some z := by rw [← List.getElem?_reverse (by omega)]; exact hz
        obtain ⟨v, hv, rv⟩ := rs'.get hz'
        refine ⟨⟨by omega, vs', v, hq', by rw [hl]; exact hv⟩, fun w H'' ⟨eH, hall⟩ => ?_⟩
        subst eH
        have := hall vs' hq'
        rw [hl, hv] at this
        cases this
        exact ⟨fun _ _ h => h, rv⟩
      · exact P.elim
end
end DL

/-! DL: exceptions: raise, try, except. -/
namespace DL
open PySem PySem.Spec L2
open PyProof.Rows hiding St

section
variable {X : Cx} {W : WX}
theorem cx_false {P : Program} {w : World} {outer : List Env} {H : Hp} {s : Shared} {u : Value} {s' : Shared} (h : L2.CX P w outer H s (fun _ _ _ => False) u s') : False := by
  obtain ⟨_, _, _, _, _, _, _, _, _, _, _, _, z⟩ := h
  exact z
theorem pass_false {X : Cx} : Passes (L2.CX X.prog X.w) X (fun _ _ _ => False) := fun _ _ _ _ _ _ _ c => (cx_false c).elim
/-- an own class whose __init__ is ValueError's -/
structure BaseX (K : PySem.W.Frag) (B : Addr) : Prop where
  rd : PySem.W.readsIn K B (.type "type") = true
  ga : PySem.W.specialIn K (.ref B) "__getattribute__" = some (some (.builtin "type.__getattribute__"))
  vV : PySem.W.findCls K (.ref B) (.type "type") "__init__" = some (.val (.builtin "ValueError.__init__"))
/-- B.__init__(self, ..), B an own class below ValueError -/
theorem pe_binit {B : Addr} {x : Str} {e : Expr} {es : List Expr} {ta : TA} {p1 p2 pos : Pos} {pl : Sem Bool} (hg : Gl X x) (hm : X.mg x = some (.ref B)) (b : BaseX X.K B) (ha : PA X (e :: es) ta) (hdb : (x == ("__debug__" : Str)) = false := by decide)
    (hc : eval (.Call (.Attribute (.Name x p1) "__init__" p2) (e :: es) [] pos) X.env = (do
      let ov ← eval (.Name x p1) X.env
      standAt p2.atName
      let (f, first) ← holding [ov] (getMethod ov "__init__" pl)
      callWith pos f first (backTo pos (starEach (e :: es) X.env)) (backToKw pos (keywordEach [] X.env))) := by rfl)
    (he : starEach (e :: es) X.env = (false, eval e X.env) :: starEach es X.env := by rfl) (hpl : (backTo pos (starEach es X.env)).any (·.1) = false := by rfl) :
    PE X (.Call (.Attribute (.Name x p1) "__init__" p2) (e :: es) [] pos) (tVeI X.K ta) := by
  refine ⟨fun pins s σ H Q I h => ?_⟩
  refine PySem.W.methodCall_KW (ld_glob I hg hm ?_ hdb) hc
  refine PySem.W.method_cls I.kIn b.ga (PySem.W.cls_value I.kIn b.rd b.vV (by decide +kernel) ?_)
  show wpAny _ _ (callWith pos (Value.builtin "ValueError.__init__") [] (backTo pos (starEach (e :: es) X.env)) []) _ _ _
  refine PyProof.Rows.callWith_method1 (thn (ha.run pos pins _ σ H _ (I.tok _) h) fun us s1 ⟨vs, H1, I1, r1, a, C, ws, ev, hl, T, ea, q⟩ => ?_) he hpl
  subst ev
  cases r1 with
  | @cons _ u0 _ ur ra rw' =>
    obtain rfl : u0 = Value.ref a := ra
    have hlen : ur.length ≤ sizeLine := by
      rw [← Paired.length rw', sizeLine_eq]
      omega
    exact oinit_ok T I1 ea hlen fun s' J => ⟨.non, H1, J, rfl, q⟩
end

/-! ### an exception's own __init__: base, then one field a parameter -/
def spI1 (K : PySem.W.Frag) (C : Addr) (f : Str) : Sp := fun vs H Q _ => ∃ a y, vs = [.ref a, y] ∧ H a = some (exo a C none) ∧ OexC K C ∧ PySem.W.findIn K (.ref C) f = some none ∧
  ∀ dx, H dx = none → dx ≠ a → Q .non (upd (upd H dx (exd dx [(f, y)])) a (exo a C (some dx)))
def spI2 (K : PySem.W.Frag) (C : Addr) (f g : Str) : Sp := fun vs H Q _ => ∃ a y z, vs = [.ref a, y, z] ∧ H a = some (exo a C none) ∧ OexC K C ∧ PySem.W.findIn K (.ref C) f = some none ∧ PySem.W.findIn K (.ref C) g = some none ∧
  ∀ dx, H dx = none → dx ≠ a → Q .non (upd (upd (upd H dx (exd dx [(f, y)])) a (exo a C (some dx))) dx (exd dx [(g, z), (f, y)]))
section
variable {P : Program} {w : World} {K : PySem.W.Frag} {mg : Str → Option Value} {base : Heap}
theorem init1_ok {x qual : Str} {st : Stmt} {f C B : Addr} {fd : FuncData} {bn fld sn pn : Str} {m : Str} {j : Nat} {p1 p2 p3 p4 p5 p6 p7 p8 p9 p10 : Pos} (Fn : FnP K x qual st [] [] f fd) (S : FnScope [sn, pn] [sn, pn] (defScope st))
    (hB : mg bn = some (.ref B)) (b : BaseX K B) (hdb : (bn == ("__debug__" : Str)) = false := by decide)
    (hbody : defBody st = [.Expr (.Call (.Attribute (.Name bn p1) "__init__" p2) [.Name sn p3, .Constant (.str m) j p4] [] p5) p6, .Assign [.Attribute (.Name sn p7) fld p8] (.Name pn p9) p10] := by rfl)
    (hg : ∀ (cdv : Value) (A : Around) (outer : List Env) (s : Shared) (H : Hp) (E : XK), Gl (cxOf (L2.CX P w) P w K mg base [sn, pn] qual (defScope st) f cdv A outer s H E) bn := by intros; rfl)
    (hc : ∀ (cdv : Value) (A : Around) (outer : List Env) (s : Shared) (H : Hp) (E : XK), ∃ pl, eval (.Call (.Attribute (.Name bn p1) "__init__" p2) [.Name sn p3, .Constant (.str m) j p4] [] p5) (cxOf (L2.CX P w) P w K mg base [sn, pn] qual (defScope st) f cdv A outer s H E).env = (do
      let ov ← eval (.Name bn p1) (cxOf (L2.CX P w) P w K mg base [sn, pn] qual (defScope st) f cdv A outer s H E).env
      standAt p2.atName
      let (f', first) ← holding [ov] (getMethod ov "__init__" pl)
      callWith p5 f' first (backTo p5 (starEach [.Name sn p3, .Constant (.str m) j p4] (cxOf (L2.CX P w) P w K mg base [sn, pn] qual (defScope st) f cdv A outer s H E).env)) (backToKw p5 (keywordEach [] (cxOf (L2.CX P w) P w K mg base [sn, pn] qual (defScope st) f cdv A outer s H E).env))) := by intros; exact ⟨_, rfl⟩)
    (v1 : Vis (defScope st) sn := by exact Or.inl rfl) (v2 : Vis (defScope st) pn := by exact Or.inl rfl) (d1 : (sn == ("__debug__" : Str)) = false := by decide) (d2 : (pn == ("__debug__" : Str)) = false := by decide) (c1 : (sn == ("__classdict__" : Str)) = false := by decide) (c2 : (pn == ("__classdict__" : Str)) = false := by decide) :
    FnOk P w K mg base (L2.CX P w) 1 f fd [sn, pn] (spI1 K C fld) := by
  refine FunD.ok (k := 0) Fn S (fun vs H Q E h => ?_) fun cdv A outer s H vs Q E hr h => ?_
  · obtain ⟨a, y, rfl, _⟩ := h; rfl
  · obtain ⟨a, y, rfl, ea, T, hno, q⟩ := h
    rw [hbody]
    obtain ⟨pl, hc⟩ := hc cdv A outer s H E
    refine ⟨_, pss_cons (ps_expr (pe_binit (pl := pl) (hg cdv A outer s H E) hB b (pa_cons (pe_var (i := 0) rfl v1 d1 c1) (pa_cons pe_str pa_nil)) hdb hc)) (pss_one (ps_ost (pe_var (i := 0) rfl v1 d1 c1) (pe_var (i := 1) rfl v2 d2 c2))), ?_⟩
    refine ⟨_, rfl, a, C, [_], rfl, by simp, T, ea, ?_⟩
    exact ⟨_, rfl, _, rfl, a, C, rfl, T, hno, .inl ⟨ea, fun dx n ne => q dx n ne⟩⟩
theorem init2_ok {x qual : Str} {st : Stmt} {f C B : Addr} {fd : FuncData} {bn fld gld sn pn qn : Str} {m : Str} {j : Nat} {p1 p2 p3 p4 p5 p6 p7 p8 p9 p10 p11 p12 p13 p14 : Pos} (Fn : FnP K x qual st [] [] f fd) (S : FnScope [sn, pn, qn] [sn, pn, qn] (defScope st))
    (hB : mg bn = some (.ref B)) (b : BaseX K B) (hdb : (bn == ("__debug__" : Str)) = false := by decide)
    (hbody : defBody st = [.Expr (.Call (.Attribute (.Name bn p1) "__init__" p2) [.Name sn p3, .Constant (.str m) j p4] [] p5) p6, .Assign [.Attribute (.Name sn p7) fld p8] (.Name pn p9) p10, .Assign [.Attribute (.Name sn p11) gld p12] (.Name qn p13) p14] := by rfl)
    (hg : ∀ (cdv : Value) (A : Around) (outer : List Env) (s : Shared) (H : Hp) (E : XK), Gl (cxOf (L2.CX P w) P w K mg base [sn, pn, qn] qual (defScope st) f cdv A outer s H E) bn := by intros; rfl)
    (hc : ∀ (cdv : Value) (A : Around) (outer : List Env) (s : Shared) (H : Hp) (E : XK), ∃ pl, eval (.Call (.Attribute (.Name bn p1) "__init__" p2) [.Name sn p3, .Constant (.str m) j p4] [] p5) (cxOf (L2.CX P w) P w K mg base [sn, pn, qn] qual (defScope st) f cdv A outer s H E).env = (do
      let ov ← eval (.Name bn p1) (cxOf (L2.CX P w) P w K mg base [sn, pn, qn] qual (defScope st) f cdv A outer s H E).env
      standAt p2.atName
      let (f', first) ← holding [ov] (getMethod ov "__init__" pl)
      callWith p5 f' first (backTo p5 (starEach [.Name sn p3, .Constant (.str m) j p4] (cxOf (L2.CX P w) P w K mg base [sn, pn, qn] qual (defScope st) f cdv A outer s H E).env)) (backToKw p5 (keywordEach [] (cxOf (L2.CX P w) P w K mg base [sn, pn, qn] qual (defScope st) f cdv A outer s H E).env))) := by intros; exact ⟨_, rfl⟩)
    (v1 : Vis (defScope st) sn := by exact Or.inl rfl) (v2 : Vis (defScope st) pn := by exact Or.inl rfl) (v3 : Vis (defScope st) qn := by exact Or.inl rfl) (d1 : (sn == ("__debug__" : Str)) = false := by decide) (d2 : (pn == ("__debug__" : Str)) = false := by decide) (d3 : (qn == ("__debug__" : Str)) = false := by decide)
    (c1 : (sn == ("__classdict__" : Str)) = false := by decide) (c2 : (pn == ("__classdict__" : Str)) = false := by decide) (c3 : (qn == ("__classdict__" : Str)) = false := by decide) :
    FnOk P w K mg base (L2.CX P w) 1 f fd [sn, pn, qn] (spI2 K C fld gld) := by
  refine FunD.ok (k := 0) Fn S (fun vs H Q E h => ?_) fun cdv A outer s H vs Q E hr h => ?_
  · obtain ⟨a, y, z, rfl, _⟩ := h; rfl
  · obtain ⟨a, y, z, rfl, ea, T, hno, hno2, q⟩ := h
    rw [hbody]
    obtain ⟨pl, hc⟩ := hc cdv A outer s H E
    refine ⟨_, pss_cons (ps_expr (pe_binit (pl := pl) (hg cdv A outer s H E) hB b (pa_cons (pe_var (i := 0) rfl v1 d1 c1) (pa_cons pe_str pa_nil)) hdb hc)) (pss_cons (ps_ost (pe_var (i := 0) rfl v1 d1 c1) (pe_var (i := 1) rfl v2 d2 c2)) (pss_one (ps_ost (pe_var (i := 0) rfl v1 d1 c1) (pe_var (i := 2) rfl v3 d3 c3)))), ?_⟩
    refine ⟨_, rfl, a, C, [_], rfl, by simp, T, ea, ?_⟩
    refine ⟨_, rfl, _, rfl, a, C, rfl, T, hno, .inl ⟨ea, fun dx n ne => ?_⟩⟩
    refine ⟨_, rfl, _, rfl, a, C, rfl, T, hno2, .inr ⟨dx, [(fld, y)], upd_same, ?_, by simp, q dx n ne⟩⟩
    rw [upd_ne ne, upd_same]
end

/-! ### raise C(e, ..) -/
def excS (C : String) (ns : List String) (ma : MA) : MST := fun sd M => SRes.ofE (ma sd M) sd fun ds M1 => if ds.length = ns.length then .exc C ns ds.reverse sd M1 else .stuck
/-- what of the text an own exception class is -/
structure ExC (K : PySem.W.Frag) (mg : Str → Option Value) (C : String) (c fI : Addr) (fs : List String) : Prop where
  mgC : mg (Str.ofString C) = some (.ref c)
  ox : OexC K c
  ini : PySem.W.findIn K (.ref c) "__init__" = some (some (.ref fI))
  ity : PySem.W.typeIn K (.ref fI) = some (.type "function")
  no : ∀ f, f ∈ fs → PySem.W.findIn K (.ref c) (Str.ofString f) = some none
section
variable {X : Cx} {W : WX} {C f g : String} {c fI : Addr} {fd : FuncData} {ps : List Str} {e : Expr} {es : List Expr} {ma : MA} {p pos pos2 : Pos}
theorem ds_raise1 (cx : Ctx X W) (T : ExC X.K X.mg C c fI [f]) (F1 : FnOk X.prog X.w X.K X.mg X.base (L2.CX X.prog X.w) 1 fI fd ps (spI1 X.K c (Str.ofString f))) (hr : Room 2 X.A) (hb : Binds X.K fd ps []) (hg : Gl X (Str.ofString C)) (ha : DA X W [e] ma)
    (hdb : (Str.ofString C == ("__debug__" : Str)) = false := by decide) (he : starEach [e] X.env = (false, eval e X.env) :: starEach [] X.env := by rfl) (hpl : (backTo pos (starEach [] X.env)).any (·.1) = false := by rfl) :
    DS X W (.Raise (some (.Call (.Name (Str.ofString C) p) [e] [] pos)) none pos2) (excS C [f] ma) := by
  refine ⟨⟨fun pins s st H D0 I q => (ps_raise cx.calm cx.tk (pmk_oex (ds := []) (dvs := []) T.ox T.ini T.ity F1 hr hb .nil pass_false hg T.mgC ha.pa hdb he hpl)).run pins s st H D0 I ?_⟩⟩
  obtain ⟨ro, sd, M, R, S, P⟩ := q
  refine ⟨ro, sd, M, R, S, (PostS.ofE P S).imp fun xs H1 ⟨ro1, M1, ds, R1, P1, r1, q1⟩ => ?_⟩
  split at q1
  · rename_i hl
    match ds, hl with
    | [d], _ =>
      obtain ⟨y, rfl, ry⟩ := reps1 r1
      refine ⟨by simp, fun a na => ⟨a, y, rfl, upd_same, T.ox, T.no f (by simp), fun dx ndx nda => ⟨rfl, dx, [(Str.ofString f, y)], upd_same, ?_, ?_, ?_⟩⟩⟩
      · rw [upd_ne nda, upd_same]
      · rw [upd_ne nda] at ndx; exact ndx
      · have nd : H1 dx = none := by rw [upd_ne nda] at ndx; exact ndx
        have eH : upd (del (upd (upd (upd H1 a (exo a c none)) dx (exd dx [(Str.ofString f, y)])) a (exo a c (some dx))) a) dx (.xd [(Str.ofString f, y)]) = upd H1 dx (.xd [(Str.ofString f, y)]) := by
          funext b
          by_cases h1 : b = dx
          · subst h1; rw [upd_same, upd_same]
          · rw [upd_ne h1, upd_ne h1]
            by_cases h2 : b = a
            · subst h2; rw [del_same, na]
            · rw [del_ne h2, upd_ne h2, upd_ne h1, upd_ne h2]
        rw [eH]
        obtain ⟨R2, P2⟩ := R1.alloc (o := .xd [(Str.ofString f, y)]) nd
        exact q1 ro1 _ st (.ref c) (some dx) R2 P2 ((S.mono P1).mono P2) ⟨c, rfl, T.mgC, .inr ⟨dx, [y], rfl, upd_same, R1.fresh nd, rfl, Reps.mono P2 _ _ (Reps.one ry)⟩⟩
  · exact q1.elim
theorem ds_raise2 (cx : Ctx X W) (T : ExC X.K X.mg C c fI [f, g]) (F1 : FnOk X.prog X.w X.K X.mg X.base (L2.CX X.prog X.w) 1 fI fd ps (spI2 X.K c (Str.ofString f) (Str.ofString g))) (hr : Room 2 X.A) (hb : Binds X.K fd ps []) (hg : Gl X (Str.ofString C)) (ha : DA X W (e :: es) ma)
    (hdb : (Str.ofString C == ("__debug__" : Str)) = false := by decide) (he : starEach (e :: es) X.env = (false, eval e X.env) :: starEach es X.env := by rfl) (hpl : (backTo pos (starEach es X.env)).any (·.1) = false := by rfl) :
    DS X W (.Raise (some (.Call (.Name (Str.ofString C) p) (e :: es) [] pos)) none pos2) (excS C [g, f] ma) := by
  refine ⟨⟨fun pins s st H D0 I q => (ps_raise cx.calm cx.tk (pmk_oex (ds := []) (dvs := []) T.ox T.ini T.ity F1 hr hb .nil pass_false hg T.mgC ha.pa hdb he hpl)).run pins s st H D0 I ?_⟩⟩
  obtain ⟨ro, sd, M, R, S, P⟩ := q
  refine ⟨ro, sd, M, R, S, (PostS.ofE P S).imp fun xs H1 ⟨ro1, M1, ds, R1, P1, r1, q1⟩ => ?_⟩
  split at q1
  · rename_i hl
    match ds, hl with
    | [d, d2], _ =>
      obtain ⟨y, z, rfl, ry, rz⟩ := reps2 r1
      refine ⟨by simp, fun a na => ⟨a, y, z, rfl, upd_same, T.ox, T.no f (by simp), T.no g (by simp), fun dx ndx nda => ⟨rfl, dx, [(Str.ofString g, z), (Str.ofString f, y)], ?_, upd_same, ?_, ?_⟩⟩⟩
      · rw [upd_ne (Ne.symm nda), upd_same]
      · rw [upd_ne nda] at ndx; exact ndx
      · have nd : H1 dx = none := by rw [upd_ne nda] at ndx; exact ndx
        have eH : upd (del (upd (upd (upd (upd H1 a (exo a c none)) dx (exd dx [(Str.ofString f, y)])) a (exo a c (some dx))) dx (exd dx [(Str.ofString g, z), (Str.ofString f, y)])) a) dx (.xd [(Str.ofString g, z), (Str.ofString f, y)]) = upd H1 dx (.xd [(Str.ofString g, z), (Str.ofString f, y)]) := by
          funext b
          by_cases h1 : b = dx
          · subst h1; rw [upd_same, upd_same]
          · rw [upd_ne h1, upd_ne h1]
            by_cases h2 : b = a
            · subst h2; rw [del_same, na]
            · rw [del_ne h2, upd_ne h1, upd_ne h2, upd_ne h1, upd_ne h2]
        rw [eH]
        obtain ⟨R2, P2⟩ := R1.alloc (o := .xd [(Str.ofString g, z), (Str.ofString f, y)]) nd
        exact q1 ro1 _ st (.ref c) (some dx) R2 P2 ((S.mono P1).mono P2) ⟨c, rfl, T.mgC, .inr ⟨dx, [z, y], rfl, upd_same, R1.fresh nd, rfl, ⟨_, _, rfl, Rep.mono P2 _ _ rz, Reps.one (Rep.mono P2 _ _ ry)⟩⟩⟩
  · exact q1.elim
end

/-! ### try -/
def finS (i : Nat) : SRes → SRes
  | .nx sd M => .nx (sd.set i none) M
  | .brk sd M => .brk (sd.set i none) M
  | .ct sd M => .ct (sd.set i none) M
  | .ret d M => .ret d M
  | _ => .stuck
def exSlot (C : String) (ns : List String) (ds : List D) (a d : Addr) : Option D := if ns = [] then none else some (.exn C ns ds a d)
/-- try: b / except x as n: m; exm tells whether the clause takes an exception of the class -/
def tryS (exm : String → Option Bool) (i : Nat) (mb : MST) (ms : Addr → Option Addr → MST) : MST := fun sd M => match mb sd M with
  | .exc C ns ds sd1 M1 => (match exm C with
    | some true => finS i (ms 0 (some 0) (sd1.set i (exSlot C ns ds 0 0)) M1)
    | some false => .exc C ns ds sd1 M1
    | none => .stuck)
  | r => r
/-- try: b / except x: m -/
def tryO (exm : String → Option Bool) (mb ms : MST) : MST := fun sd M => match mb sd M with
  | .exc C ns ds sd1 M1 => (match exm C with
    | some true => (match ms sd1 M1 with
      | .exc .. => .stuck
      | r => r)
    | some false => .exc C ns ds sd1 M1
    | none => .stuck)
  | r => r
/-- the class of what is caught -/
def Caught (mg : Str → Option Value) (exm : String → Option Bool) (cls : Value) : Prop := ∃ C cc, exm C = some true ∧ mg (Str.ofString C) = some (.ref cc) ∧ cls = .ref cc
structure ExM (K : PySem.W.Frag) (mg : Str → Option Value) (c : Value) (exm : String → Option Bool) : Prop where
  ok : ∀ C b, exm C = some b → ∀ cc, mg (Str.ofString C) = some (.ref cc) → PySem.W.exmOne K (.ref cc) c = some b
section
variable {X : Cx} {W : WX} {x n : Str} {c : Value} {i : Nat} {body suite : List Stmt} {b₀ : Stmt} {np pos pos' : Pos} {mb : MST} {ms : Addr → Option Addr → MST} {m1 : MST} {exm : String → Option Bool}
theorem ds_try_as (hs : X.stack = X.env :: X.outer) (hf : X.env.frame = some X.env.locals) (hN : X.N.Nodup) (tk : Takes X W) (hc : Names X x c) (hx : ExM X.K X.mg c exm)
    (hb : ∀ (W' : WX) (pn : List (Addr × Obj)) (xe : Value → Shared → Prop), Ctx (X.tr pn xe) W' → DSs (X.tr pn xe) W' body mb)
    (hsu : ∀ (a : Addr) (oe : Obj) (cls : Value) (d : Option Addr) (pn : List (Addr × Obj)), Zc cls d oe → (∃ vs, oe.data = .fields vs) → Caught X.mg exm cls → DSs (X.suite a ((a, oe) :: pn)) W0 (b₀ :: suite) (ms a d))
    (heq : ∀ (a : Addr) (d : Option Addr) (C : String) (ns : List String) (ds : List D) (sd : SD) (M : MS), (d = none → ns = []) → finS i (ms a d (sd.set i (exSlot C ns ds a (d.getD 0))) M) = finS i (ms 0 (some 0) (sd.set i (exSlot C ns ds 0 0)) M)) (hcalm : X.calm = true) (hi : X.N[i]? = some n := by rfl) (hln : X.env.kindOf n = some .local := by rfl) :
    DS X W (.Try body [.ExceptHandler (some (.Name x np)) (some n) (b₀ :: suite) pos'] [] [] pos) (tryS exm i mb ms) := by
  refine ⟨⟨fun pins s st H D0 I q => (ps_try_as (c := c) (Wout := W) (tb := fun W' => liftS X.K X.mg W' mb) (ts := fun a cls d D st H => Caught X.mg exm cls ∧ liftS X.K X.mg W0 (ms a d) D st H) hs hf hN hi hln hc tk (fun W' pn xe t po => (hb W' pn xe ⟨t, po, hcalm⟩).ps) (fun a oe cls d pn z1 z2 => ⟨fun pins s σ H D I h => (hsu a oe cls d pn z1 z2 h.1).ps.run pins s σ H D I h.2⟩)).run pins s st H D0 I ?_⟩⟩
  obtain ⟨ro, sd, M, R, S, P⟩ := q
  refine ⟨ro, sd, M, R, S, ?_⟩
  unfold tryS at P
  cases e : mb sd M with
  | nx sd1 M1 => rw [e] at P; exact P
  | ret d M1 => rw [e] at P; exact P
  | brk sd1 M1 => rw [e] at P; exact P
  | ct sd1 M1 => rw [e] at P; exact P
  | stuck => rw [e] at P; exact P
  | exc C ns ds sd1 M1 =>
    rw [e] at P
    have P : PostS X.K X.mg W ro H D0 (match exm C with | some true => finS i (ms 0 (some 0) (sd1.set i (exSlot C ns ds 0 0)) M1) | some false => .exc C ns ds sd1 M1 | none => .stuck) := P
    intro ro' H' st' cls dd R' P' S' rx
    obtain ⟨cc, rfl, hmg, rx'⟩ := id rx
    cases hm : exm C with
    | none => rw [hm] at P; exact P.elim
    | some b =>
      rw [hm] at P
      refine ⟨b, hx.ok C b hm cc hmg, fun hbt a na => ?_, fun hbf => ?_⟩
      · subst hbt
        have P : PostS X.K X.mg W ro H D0 (finS i (ms 0 (some 0) (sd1.set i (exSlot C ns ds 0 0)) M1)) := P
        rw [← heq a dd C ns ds sd1 M1 (fun z => by rcases rx' with ⟨_, h2, _⟩ | ⟨d, vs, h1, _⟩; exact h2; rw [h1] at z; cases z)] at P
        refine ⟨⟨C, cc, hm, hmg, rfl⟩, ro', sd1.set i (exSlot C ns ds a (dd.getD 0)), M1, R', ?_, ?_⟩
        · unfold exSlot
          split
          · exact S'.unset
          · rename_i hne
            refine S'.set ?_
            rcases rx' with ⟨_, h2, _⟩ | ⟨d, vs, rfl, h2, h3, h4, h5⟩
            · exact absurd h2 hne
            · exact ⟨a, vs, ⟨rfl, rfl⟩, h2, h3, h4, h5⟩
        · have P := PostS.moves P P'
          cases er : ms a dd (sd1.set i (exSlot C ns ds a (dd.getD 0))) M1 with
          | nx sd2 M2 => rw [er] at P; exact fun ro2 H2 st2 R2 P2 S2 => P ro2 H2 _ R2 P2 S2.unset
          | brk sd2 M2 => rw [er] at P; exact fun ro2 H2 st2 R2 P2 S2 => P ro2 H2 _ R2 P2 S2.unset
          | ct sd2 M2 => rw [er] at P; exact fun ro2 H2 st2 R2 P2 S2 => P ro2 H2 _ R2 P2 S2.unset
          | ret d M2 => rw [er] at P; exact P
          | exc => rw [er] at P; exact P.elim
          | stuck => rw [er] at P; exact P
      · subst hbf
        exact P ro' H' st' _ dd R' P' S' rx
theorem ds_try_only (hs : X.stack = X.env :: X.outer) (hf : X.env.frame = some X.env.locals) (tk : Takes X W) (hc : Names X x c) (hx : ExM X.K X.mg c exm)
    (hb : ∀ (W' : WX) (pn : List (Addr × Obj)) (xe : Value → Shared → Prop), Ctx (X.tr pn xe) W' → DSs (X.tr pn xe) W' body mb)
    (hsu : ∀ (a : Addr) (oe : Obj) (cls : Value) (d : Option Addr) (pn : List (Addr × Obj)), Zc cls d oe → (∃ vs, oe.data = .fields vs) → DSs (X.suite a ((a, oe) :: pn)) W0 (b₀ :: suite) m1) (hcalm : X.calm = true) :
    DS X W (.Try body [.ExceptHandler (some (.Name x np)) none (b₀ :: suite) pos'] [] [] pos) (tryO exm mb m1) := by
  refine ⟨⟨fun pins s st H D0 I q => (ps_try_only (c := c) (Wout := W) (tb := fun W' => liftS X.K X.mg W' mb) (ts := fun _ _ _ => liftS X.K X.mg W0 m1) hs hf hc tk (fun W' pn xe t po => (hb W' pn xe ⟨t, po, hcalm⟩).ps) (fun a oe cls d pn z1 z2 => (hsu a oe cls d pn z1 z2).ps)).run pins s st H D0 I ?_⟩⟩
  obtain ⟨ro, sd, M, R, S, P⟩ := q
  refine ⟨ro, sd, M, R, S, ?_⟩
  unfold tryO at P
  cases e : mb sd M with
  | nx sd1 M1 => rw [e] at P; exact P
  | ret d M1 => rw [e] at P; exact P
  | brk sd1 M1 => rw [e] at P; exact P
  | ct sd1 M1 => rw [e] at P; exact P
  | stuck => rw [e] at P; exact P
  | exc C ns ds sd1 M1 =>
    rw [e] at P
    have P : PostS X.K X.mg W ro H D0 (match exm C with | some true => (match m1 sd1 M1 with | .exc .. => .stuck | r => r) | some false => .exc C ns ds sd1 M1 | none => .stuck) := P
    intro ro' H' st' cls dd R' P' S' rx
    obtain ⟨cc, rfl, hmg, rx'⟩ := id rx
    cases hm : exm C with
    | none => rw [hm] at P; exact P.elim
    | some b =>
      rw [hm] at P
      refine ⟨b, hx.ok C b hm cc hmg, fun hbt a na => ?_, fun hbf => ?_⟩
      · subst hbt
        refine ⟨ro', sd1, M1, R', S', ?_⟩
        have P := PostS.moves P P'
        cases er : m1 sd1 M1 with
        | nx sd2 M2 => rw [er] at P; exact P
        | brk sd2 M2 => rw [er] at P; exact P
        | ct sd2 M2 => rw [er] at P; exact P
        | ret d M2 => rw [er] at P; exact P
        | exc => rw [er] at P; exact P.elim
        | stuck => rw [er] at P; exact P
      · subst hbf
        exact P ro' H' st' _ dd R' P' S' rx
/-- e.f, e the exception that the suite holds -/
def xfE (a : Addr) (d : Option Addr) (f : String) (m : ME) : ME := fun sd M => (m sd M).bind fun e M1 => match e with
  | .exn _ ns ds x y => if x = a ∧ some y = d then (match lookF ns ds f with
    | some r => .ok r M1
    | none => .stuck) else .stuck
  | _ => .stuck
theorem de_xf {a : Addr} {oe : Obj} {cls : Value} {d : Option Addr} {pn : List (Addr × Obj)} {e : Expr} {m : ME} {f : String} (hz : Zc cls d oe) (hf : ∃ vs, oe.data = .fields vs) (hcl : Caught X.mg exm cls)
    (T : ∀ C cc, exm C = some true → X.mg (Str.ofString C) = some (.ref cc) → XfC X.K cc ∧ PySem.W.findIn X.K (.ref cc) (Str.ofString f) = some none) (he : DE (X.suite a ((a, oe) :: pn)) W0 e m)
    (hb : attributeBase e (Str.ofString f) X.env (eval e X.env) = eval e X.env := by rfl) : DE (X.suite a ((a, oe) :: pn)) W0 (.Attribute e (Str.ofString f) pos) (xfE a d f m) := by
  obtain ⟨C, cc, h1, h2, rfl⟩ := hcl
  obtain ⟨t1, t2⟩ := T C cc h1 h2
  refine ⟨⟨fun pins s st H Q I q => (pe_xf t1 t2 hz hf he.pe hb).run pins s st H Q I ?_⟩⟩
  obtain ⟨ro, sd, M, R, S, P⟩ := q
  refine ⟨ro, sd, M, R, S, (Post.bind P).imp fun x H1 ⟨ro1, M1, e', R1, P1, r1, q1⟩ => ?_⟩
  cases e' with
  | exn C' ns ds x' y' =>
    obtain ⟨b, vs, ⟨rfl, eb⟩, hH, hn, hl, rs⟩ := r1
    subst eb
    by_cases hxy : b = a ∧ some y' = d
    · have q2 : PostD X.K X.mg (fun _ _ _ => False) ro1 H1 Q (match lookF ns ds f with | some r => .ok r M1 | none => .stuck) := by
        simp only [hxy, and_self, if_true] at q1
        exact q1
      obtain ⟨rfl, rfl⟩ := hxy
      cases hr : lookF ns ds f with
      | none => rw [hr] at q2; exact q2.elim
      | some r =>
        rw [hr] at q2
        obtain ⟨v, hv, rv⟩ := lookF_some rs hr
        exact ⟨rfl, rfl, y', _, v, rfl, hH, hv, PostD.pure R1 rv q2⟩
    · simp only [hxy, if_false] at q1
      exact q1.elim
  | _ => exact q1.elim
end
end DL

/-! DL: tables of the text's classes: ==, isinstance, except; recursive defs. -/
namespace DL
open PySem PySem.Spec L2
open PyProof.Rows hiding St
section
variable {K : PySem.W.Frag} {mg : Str → Option Value}
/-- what may stand right of C's == -/
def okE (C : String) (bs : List String) : TN → Bool
  | .c C' => decide (C' = C)
  | .b n => decide (n ∈ bs)
theorem eqRight_of {C : String} {c : Addr} {bs : List String} (hm : mg (Str.ofString C) = some (.ref c)) (hb : ∀ n, n ∈ bs → PySem.W.subIn K (.type n) (.ref c) = some false) : EqRight K mg C c (okE C bs) := ⟨fun a h t ht => by
  cases a with
  | c C' =>
    have e : C' = C := of_decide_eq_true h
    subst e
    obtain ⟨c', hc, rfl⟩ := ht
    rw [hm] at hc; cases hc
    simp [PySem.W.notFirst]
  | b n =>
    have e : n ∈ bs := of_decide_eq_true h
    cases (show t = .type n from ht)
    simp [PySem.W.notFirst, hb n e]⟩
theorem nb_nil {c : Addr} : ∀ n, n ∈ ([] : List String) → PySem.W.subIn K (.type n) (.ref c) = some false := fun n h => by cases h
theorem nb_cons {c : Addr} {b : String} {bs : List String} (h : PySem.W.subIn K (.type b) (.ref c) = some false) (r : ∀ n, n ∈ bs → PySem.W.subIn K (.type n) (.ref c) = some false) : ∀ n, n ∈ b :: bs → PySem.W.subIn K (.type n) (.ref c) = some false := fun n hn => by
  rcases List.mem_cons.mp hn with e | hn
  · rw [e]; exact h
  · exact r n hn
/-- isinstance by a table -/
def tnEq : TN → TN → Bool
  | .b a, .b b => decide (a = b)
  | .c a, .c b => decide (a = b)
  | _, _ => false
theorem tnEq_eq {a b : TN} (h : tnEq a b = true) : a = b := by
  cases a <;> cases b <;> first | cases h | (rw [of_decide_eq_true h])
def tblL : List (TN × TN × Bool) → TN → TN → Option Bool
  | [], .b a, .b n => kitB a n
  | [], _, _ => none
  | (x, y, k) :: r, a, b => if (tnEq x a && tnEq y b) = true then some k else tblL r a b
theorem tblL_nil : TblOk K mg (tblL []) := ⟨fun a b k h => by
  cases a <;> cases b <;> try cases h
  exact ⟨_, rfl, fun t ht => by cases ht; exact kit_ty h⟩⟩
theorem tblL_cons {x y : TN} {k : Bool} {l : List (TN × TN × Bool)} {u t : Value} (hu : TNv mg y u) (ht : ∀ t', TNv mg x t' → t' = t) (h : PySem.W.kitOne K t u = some k) (r : TblOk K mg (tblL l)) : TblOk K mg (tblL ((x, y, k) :: l)) := ⟨fun a b k' e => by
  unfold tblL at e
  split at e
  · rename_i hc
    cases e
    obtain ⟨h1, h2⟩ := Bool.and_eq_true_iff.mp hc
    have e1 := tnEq_eq h1
    have e2 := tnEq_eq h2
    subst e1 e2
    exact ⟨u, hu, fun t' q => by rw [ht t' q]; exact h⟩
  · exact r.ok a b k' e⟩
theorem tn_c {C : String} {c : Addr} (hm : mg (Str.ofString C) = some (.ref c)) : TNv mg (.c C) (.ref c) ∧ ∀ t, TNv mg (.c C) t → t = .ref c := ⟨⟨c, hm, rfl⟩, fun t ⟨c', h, e⟩ => by rw [hm] at h; cases h; exact e⟩
theorem tn_b {n : String} : TNv mg (.b n) (.type n) ∧ ∀ t, TNv mg (.b n) t → t = .type n := ⟨rfl, fun t h => h⟩
theorem isC_nil : ∀ C c, C ∈ ([] : List String) → mg (Str.ofString C) = some (.ref c) → IsC K c := fun C c h => by cases h
theorem isC_cons {B : String} {b : Addr} {Bs : List String} (hm : mg (Str.ofString B) = some (.ref b)) (i : IsC K b) (r : ∀ C c, C ∈ Bs → mg (Str.ofString C) = some (.ref c) → IsC K c) : ∀ C c, C ∈ B :: Bs → mg (Str.ofString C) = some (.ref c) → IsC K c := fun C c h hc => by
  rcases List.mem_cons.mp h with e | h
  · subst e
    rw [hm] at hc; cases hc
    exact i
  · exact r C c h hc
/-- except by a table -/
def exmL (l : List (String × Bool)) : String → Option Bool := fun C => match l with
  | [] => none
  | (B, b) :: r => if B = C then some b else exmL r C
theorem exmL_nil {c : Value} : ExM K mg c (exmL []) := ⟨fun C b h => by cases h⟩
theorem exmL_cons {c : Value} {B : String} {cB : Addr} {b : Bool} {l : List (String × Bool)} (hm : mg (Str.ofString B) = some (.ref cB)) (h : PySem.W.exmOne K (.ref cB) c = some b) (r : ExM K mg c (exmL l)) : ExM K mg c (exmL ((B, b) :: l)) := ⟨fun C k e cc hc => by
  unfold exmL at e
  split at e
  · rename_i q
    cases e
    subst q
    rw [hm] at hc; cases hc
    exact h
  · exact r.ok C k e cc hc⟩
/-- fields of what is caught -/
abbrev XfT (K : PySem.W.Frag) (mg : Str → Option Value) (exm : String → Option Bool) (f : String) : Prop := ∀ C cc, exm C = some true → mg (Str.ofString C) = some (.ref cc) → XfC K cc ∧ PySem.W.findIn K (.ref cc) (Str.ofString f) = some none
theorem xfT_nil {f : String} : XfT K mg (exmL []) f := fun C cc h => by cases h
theorem xfT_no {f B : String} {l : List (String × Bool)} (r : XfT K mg (exmL l) f) : XfT K mg (exmL ((B, false) :: l)) f := fun C cc e hc => by
  unfold exmL at e
  split at e
  · cases e
  · exact r C cc e hc
theorem xfT_yes {f B : String} {cB : Addr} {l : List (String × Bool)} (hm : mg (Str.ofString B) = some (.ref cB)) (x : XfC K cB) (h : PySem.W.findIn K (.ref cB) (Str.ofString f) = some none) (r : XfT K mg (exmL l) f) : XfT K mg (exmL ((B, true) :: l)) f := fun C cc e hc => by
  unfold exmL at e
  split at e
  · rename_i q
    subst q
    rw [hm] at hc; cases hc
    exact ⟨x, h⟩
  · exact r C cc e hc
theorem oexC_mk {C : Addr} {nm q : Str} {N : Addr} {bs bm : List Value} {sn : List Str} {sub : List Value} {ab : Bool} {col : Option Bool} {dd : Option Addr} {k0 k1 k2 k3 k5 : Option Value} (l : K.lookup C = some (excClassObj nm q C N bs bm true sn sub ab col dd k0 k1 k2 k3 k5 "ValueError.__new__")) (r : PySem.HandSPX.refsVE bm = true)
    (sa : PySem.W.findIn K (.ref C) "__setattr__" = some (some (.builtin "object.__setattr__"))) (ex : PySem.W.subIn K (.ref C) (.type "BaseException") = some true) (ty : PySem.W.typeIn K (.ref C) = some (.type "type")) (kc : PySem.W.keepIn K (.ref C) = true) : OexC K C :=
  ⟨⟨nm, q, N, bs, bm, sn, sub, ab, col, dd, k0, k1, k2, k3, k5, l, r⟩, sa, ex, ty, kc⟩
end
/-! ### recursive defs -/
theorem dok_stuck {P : Program} {w : World} {K : PySem.W.Frag} {mg : Str → Option Value} {base : Heap} {k : Nat} {f : Addr} {fd : FuncData} {ps : List Str} : DOk P w K mg base k f fd ps (fun _ _ => .stuck) :=
  ⟨fun vs H Q E h => h.1, fun A outer s H args us vs Q E hr he hb hv h => by
    obtain ⟨_, _, _, _, _, _, z⟩ := h
    exact z.elim⟩
end DL

/-! DL: f-strings. -/
namespace DL
open PySem PySem.Spec L2
open PyProof.Rows hiding St
def fmtE (m : ME) : ME := fun sd M => (m sd M).bind fun d M1 => match d with
  | .str x => if x.length ≤ 1000000 then .ok (.str x) M1 else .stuck
  | .int i => if i.natAbs.log2 < 1900 then .ok (.str ((toString i : Str).cps.toList)) M1 else .stuck
  | _ => .stuck
def jGo : List ME → List Nat → ME
  | [], acc => fun _ M => .ok (.str acc) M
  | m :: ms, acc => fun sd M => (m sd M).bind fun d M1 => match d with
    | .str y => if acc.length + y.length ≤ 1000000 then jGo ms (acc ++ y) sd M1 else .stuck
    | _ => .stuck
def fstrE (ms : List ME) : ME := jGo ms []
inductive DJ (X : Cx) (W : WX) : List Expr → List ME → Prop where
  | nil : DJ X W [] []
  | cons {e : Expr} {m : ME} {es : List Expr} {ms : List ME} (h : DE X W e m) (r : DJ X W es ms) : DJ X W (e :: es) (m :: ms)
section
variable {X : Cx} {W : WX}
theorem de_fmt {e : Expr} {m : ME} {pos : Pos} (he : DE X W e m) : DE X W (.FormattedValue e (-1) none pos) (fmtE m) := by
  refine ⟨⟨fun pins s st H Q I q => (pe_fmt he.pe).run pins s st H Q I ?_⟩⟩
  obtain ⟨ro, sd, M, R, S, P⟩ := q
  refine ⟨ro, sd, M, R, S, (Post.bind P).imp fun x H1 ⟨ro1, M1, d, R1, P1, r1, q1⟩ => ?_⟩
  cases d with
  | str y =>
    have q1 : PostD X.K X.mg (fun c d H' => W c d st H') ro1 H1 Q (if y.length ≤ 1000000 then .ok (.str y) M1 else .stuck) := q1
    cases (show x = V.str (tx y) from r1)
    split at q1
    · rename_i hl
      exact .inl ⟨tx y, rfl, by simp only [Str.length, List.size_toArray]; exact line_le hl, PostD.pure (d := .str y) R1 rfl q1⟩
    · exact q1.elim
  | int i =>
    have q1 : PostD X.K X.mg (fun c d H' => W c d st H') ro1 H1 Q (if i.natAbs.log2 < 1900 then .ok (.str ((toString i : Str).cps.toList)) M1 else .stuck) := q1
    cases (show x = V.int i from r1)
    split at q1
    · rename_i hl
      exact .inr ⟨i, rfl, by omega, PostD.pure (d := .str ((toString i : Str).cps.toList)) R1 (by show V.str _ = V.str (tx _); simp [tx]) q1⟩
    · exact q1.elim
  | _ => exact q1.elim
theorem dj_pj : ∀ {es : List Expr} {ms : List ME}, DJ X W es ms → PJ X es (ms.map fun m => liftE X.K X.mg W m)
  | _, _, .nil => .nil
  | _, _, .cons h r => .cons h.pe (dj_pj r)
theorem tJs_of : ∀ {ms : List ME} {acc : List Nat} {st : St} {H : Hp} {Q : VK}, liftE X.K X.mg W (jGo ms acc) st H Q → tJs (ms.map fun m => liftE X.K X.mg W m) (tx acc) st H (fun out H1 => Q (.str out) H1)
  | [], acc, st, H, Q, ⟨ro, sd, M, R, S, P⟩ => PostD.pure (d := .str acc) R rfl P
  | m :: ms, acc, st, H, Q, ⟨ro, sd, M, R, S, P⟩ => by
    refine ⟨ro, sd, M, R, S, (Post.bind P).imp fun x H1 ⟨ro1, M1, d, R1, P1, r1, q1⟩ => ?_⟩
    cases d with
    | str y =>
      have q1 : PostD X.K X.mg (fun c d H' => W c d st H') ro1 H1 Q (if acc.length + y.length ≤ 1000000 then jGo ms (acc ++ y) sd M1 else .stuck) := q1
      cases (show x = V.str (tx y) from r1)
      split at q1
      · rename_i hl
        refine ⟨tx y, rfl, ?_, ?_⟩
        · rw [Str.tx_append]
          simp only [Str.length, List.size_toArray, List.length_append]
          exact line_le hl
        · rw [Str.tx_append]
          exact tJs_of ⟨ro1, sd, M1, R1, S.mono P1, q1⟩
      · exact q1.elim
    | _ => exact q1.elim
theorem de_fstr {v1 v2 : Expr} {rest : List Expr} {ms : List ME} {pos : Pos} (h : DJ X W (v1 :: v2 :: rest) ms) : DE X W (.JoinedStr (v1 :: v2 :: rest) pos) (fstrE ms) :=
  ⟨⟨fun pins s st H Q I q => (pe_joined (dj_pj h)).run pins s st H Q I (tJs_of q)⟩⟩
end
end DL
namespace DL
open PySem PySem.Spec L2
open PyProof.Rows hiding St
theorem xf_set {i : Nat} {f : String} {a : Addr} {d : Option Addr} {C : String} {ns : List String} {ds : List D} {sd : SD} {M : MS} (h : d = none → ns = []) :
    xfE a d f (nameE i) (sd.set i (exSlot C ns ds a (d.getD 0))) M = xfE 0 (some 0) f (nameE i) (sd.set i (exSlot C ns ds 0 0)) M := by
  unfold xfE nameE
  by_cases hi : i < sd.length
  · rw [List.getElem?_set_self hi, List.getElem?_set_self hi]
    unfold exSlot
    by_cases hn : ns = []
    · rw [if_pos hn, if_pos hn]; rfl
    · rw [if_neg hn, if_neg hn]
      cases d with
      | none => exact absurd (h rfl) hn
      | some dd => simp
  · rw [List.getElem?_eq_none (by rw [List.length_set]; omega), List.getElem?_eq_none (by rw [List.length_set]; omega)]; rfl
end DL
namespace DL
open PySem PySem.Spec L2
open PyProof.Rows hiding St
section
variable {K : PySem.W.Frag}
theorem kitCls_own {t : Value} {C : Addr} {b : Bool} (h1 : PySem.W.isClsIn K C = true) (h2 : PySem.W.typeIn K (.ref C) = some (.type "type")) (h3 : PySem.W.subIn K t (.ref C) = some b) : PySem.W.kitCls K t (.ref C) = some b := by
  unfold PySem.W.kitCls
  unfold PySem.W.isClsIn at h1
  simp [h1, h2, h3]
theorem exm_own {t : Value} {C : Addr} {b : Bool} (h0 : PySem.W.subIn K (.ref C) (.type "BaseException") = some true) (h1 : PySem.W.isClsIn K C = true) (h2 : PySem.W.typeIn K (.ref C) = some (.type "type")) (h3 : PySem.W.subIn K t (.ref C) = some b) : PySem.W.exmOne K t (.ref C) = some b := by
  unfold PySem.W.exmOne
  rw [h0]
  exact kitCls_own h1 h2 h3
theorem kit_own {t : Value} {C : Addr} {b : Bool} (h0 : (t == Value.ref C) = false ∨ b = true) (h1 : PySem.W.isClsIn K C = true) (h2 : PySem.W.typeIn K (.ref C) = some (.type "type")) (h3 : PySem.W.subIn K t (.ref C) = some b) : PySem.W.kitOne K t (.ref C) = some b := by
  unfold PySem.W.kitOne
  rcases h0 with h0 | rfl
  · rw [h0]; exact kitCls_own h1 h2 h3
  · split
    · rfl
    · exact kitCls_own h1 h2 h3
theorem kit_bt {C : Addr} {T : String} {b : Bool} (h1 : PySem.W.kitMeta T = true) (h3 : PySem.W.subIn K (.ref C) (.type T) = some b) : PySem.W.kitOne K (.ref C) (.type T) = some b := by
  unfold PySem.W.kitOne
  have e : ((Value.ref C) == (Value.type T)) = false := rfl
  rw [e, if_neg (by decide)]
  unfold PySem.W.kitCls
  simp [h1, h3]
theorem bt_ne {C : Addr} {T : String} : ((Value.type T) == (Value.ref C)) = false := rfl
end
end DL

/-! DL: running mirrors, more: loops by typed lists, == over data. -/
namespace DL
open PySem PySem.Spec L2
open PyProof.Rows hiding St
section
variable {sd w : SD} {M : MS} {d : D} {ds : List D} {i : Nat} {b : MST} {tt : MB} {te : ME}
@[simp] theorem nameG_ap : nameG i d sd = some (sd.set i (some d)) := rfl
theorem tupG_ap {is : List Nat} : tupG is (.tup ds) sd = setAll is ds sd := rfl
@[simp] theorem intsI_chk {xs : List Int} : (intsI xs).chk = fun _ => True := rfl
theorem intsI_ds {xs : List Int} : (intsI xs).ds = xs.map D.int := rfl
theorem rangeN_nat (n : Nat) : rangeN 0 (n : Int) = (List.range n).map (fun (k : Nat) => (k : Int)) := by simp [rangeN]
theorem ints_range (n : Nat) : (intsI (rangeN 0 (n : Int))).ds = (List.range n).map (fun (k : Nat) => D.int (k : Int)) := by rw [rangeN_nat, intsI_ds, List.map_map]; rfl
/-- what one turn gives goes on -/
def SRes.loop (r : SRes) (k : SD → MS → SRes) : SRes := match r with
  | .nx sd M => k sd M
  | .ct sd M => k sd M
  | .brk sd M => .nx sd M
  | .ret v M => .ret v M
  | .exc C ns ds sd M => .exc C ns ds sd M
  | .stuck => .stuck
@[simp] theorem SRes.loop_nx {k : SD → MS → SRes} : (SRes.nx sd M).loop k = k sd M := rfl
@[simp] theorem SRes.loop_ct {k : SD → MS → SRes} : (SRes.ct sd M).loop k = k sd M := rfl
@[simp] theorem SRes.loop_brk {k : SD → MS → SRes} : (SRes.brk sd M).loop k = .nx sd M := rfl
@[simp] theorem SRes.loop_ret {k : SD → MS → SRes} : (SRes.ret d M).loop k = .ret d M := rfl
@[simp] theorem SRes.loop_exc {k : SD → MS → SRes} {C : String} {ns : List String} : (SRes.exc C ns ds sd M).loop k = .exc C ns ds sd M := rfl
@[simp] theorem forGo_nil {g : MG} : forGo (fun _ => True) g b [] sd M = .nx sd M := by unfold forGo; simp
@[simp] theorem forGo_cons : forGo (fun _ => True) (nameG i) b (d :: ds) sd M = (b (sd.set i (some d)) M).loop (forGo (fun _ => True) (nameG i) b ds) := by
  conv => lhs; unfold forGo
  simp
  unfold SRes.loop
  cases b (sd.set i (some d)) M <;> rfl
theorem forGo_tup {is : List Nat} {sd1 : SD} {es : List D} (h : setAll is es sd = some sd1) : forGo (fun _ => True) (tupG is) b (.tup es :: ds) sd M = (b sd1 M).loop (forGo (fun _ => True) (tupG is) b ds) := by
  conv => lhs; unfold forGo
  simp [tupG_ap, h]
  unfold SRes.loop
  cases b sd1 M <;> rfl
/-- a for over a typed list, whose turns go on and change slots only -/
theorem forGo_fold {α σ : Type} {g : α → D} {emb : σ → SD} {f : σ → α → σ} : ∀ (xs : List α) (s : σ), (∀ x, x ∈ xs → ∀ s, b ((emb s).set i (some (g x))) M = .nx (emb (f s x)) M) → forGo (fun _ => True) (nameG i) b (xs.map g) (emb s) M = .nx (emb (xs.foldl f s)) M
  | [], s, _ => by simp
  | x :: xs, s, h => by
    rw [List.map_cons, forGo_cons, h x List.mem_cons_self, SRes.loop_nx, forGo_fold xs (f s x) fun y hy => h y (List.mem_cons_of_mem _ hy)]
    rfl
/-- a comprehension over a typed list that changes nothing -/
theorem lc_typed {α : Type} {g : α → D} {p : α → Bool} {f : α → D} {xs : List α} (hl : xs.length ≤ 1000000) (h : ∀ x, x ∈ xs → tt (w.set i (some (g x))) M = .ok (p x) M ∧ (p x = true → te (w.set i (some (g x))) M = .ok (f x) M)) :
    lcGo (fun _ => True) (nameG i) tt te w (xs.map g) [] M = .ok ((xs.filter p).map f) M := by
  have key : ∀ (xs : List α) (acc : List D), acc.length + xs.length ≤ 1000000 → (∀ x, x ∈ xs → tt (w.set i (some (g x))) M = .ok (p x) M ∧ (p x = true → te (w.set i (some (g x))) M = .ok (f x) M)) →
      lcGo (fun _ => True) (nameG i) tt te w (xs.map g) acc M = .ok (acc ++ (xs.filter p).map f) M := by
    intro xs
    induction xs with
    | nil => intro acc _ _; simp [lcGo]
    | cons x xs ih =>
      intro acc hl h
      obtain ⟨h1, h2⟩ := h x List.mem_cons_self
      have h3 : ∀ y, y ∈ xs → _ := fun y hy => h y (List.mem_cons_of_mem _ hy)
      rw [List.map_cons]
      unfold lcGo
      rw [if_pos trivial, nameG_ap]
      dsimp only
      rw [h1, Res.ne_ok, Res.bind_ok]
      cases hp : p x with
      | false => simp only [Bool.false_eq_true, if_false]; rw [ih acc (by simp at hl; omega) h3]; simp [hp]
      | true =>
        rw [if_pos rfl, h2 hp, Res.ne_ok, Res.bind_ok, if_pos (by simp at hl; omega), ih (acc ++ [f x]) (by simp at hl ⊢; omega) h3]
        simp [hp]
  have := key xs [] (by simpa using hl) h
  simpa using this
theorem lc_map {α : Type} {g : α → D} {f : α → D} {xs : List α} (hl : xs.length ≤ 1000000) (h : ∀ x, x ∈ xs → te (w.set i (some (g x))) M = .ok (f x) M) :
    lcGo (fun _ => True) (nameG i) yesB te w (xs.map g) [] M = .ok (xs.map f) M := by
  have := lc_typed (tt := yesB) (te := te) (p := fun _ => true) (f := f) (M := M) (w := w) (i := i) (g := g) hl fun x hx => ⟨rfl, fun _ => h x hx⟩
  rwa [List.filter_eq_self.mpr (fun _ _ => rfl)] at this
/-- a comprehension whose turns draw: P stays, Q of each -/
theorem lc_draw {α : Type} {P : MS → Prop} {r : α → D} : ∀ {n : Nat} {ds : List D}, ds.length = n → n ≤ 1000000 → P M → (∀ d, d ∈ ds → ∀ M, P M → ∃ (y : α) (M' : MS), te (w.set i (some d)) M = .ok (r y) M' ∧ P M') →
    ∃ (ys : List α) (M' : MS), lcGo (fun _ => True) (nameG i) yesB te w ds [] M = .ok (ys.map r) M' ∧ ys.length = n ∧ P M' := by
  have key : ∀ (ds : List D) (acc : List α) (M : MS), acc.length + ds.length ≤ 1000000 → P M → (∀ d, d ∈ ds → ∀ M, P M → ∃ (y : α) (M' : MS), te (w.set i (some d)) M = .ok (r y) M' ∧ P M') →
      ∃ (ys : List α) (M' : MS), lcGo (fun _ => True) (nameG i) yesB te w ds (acc.map r) M = .ok (ys.map r) M' ∧ ys.length = acc.length + ds.length ∧ P M' := by
    intro ds
    induction ds with
    | nil => intro acc M _ hP _; exact ⟨acc, M, by simp [lcGo], rfl, hP⟩
    | cons d ds ih =>
      intro acc M hl hP h
      obtain ⟨y, M1, e, hP1⟩ := h d List.mem_cons_self M hP
      obtain ⟨ys, M2, e2, hl2, hP2⟩ := ih (acc ++ [y]) M1 (by simp at hl ⊢; omega) hP1 fun d hd => h d (List.mem_cons_of_mem _ hd)
      refine ⟨ys, M2, ?_, by rw [hl2]; simp; omega, hP2⟩
      unfold lcGo
      rw [if_pos trivial, nameG_ap]
      dsimp only
      rw [yesB_ap, Res.ne_ok, Res.bind_ok, if_pos rfl, e, Res.ne_ok, Res.bind_ok, if_pos (by simp at hl ⊢; omega)]
      rw [List.map_append] at e2
      exact e2
  intro n ds hd hn hP h
  obtain ⟨ys, M', e, hl, hP'⟩ := key ds [] M (by simp; omega) hP h
  exact ⟨ys, M', e, by simpa [hd] using hl, hP'⟩
end
/-! ### == over data without objects -/
mutual
def toP : D → PyData
  | .bl b => .bool b
  | .int i => .int i
  | .str x => .str (tx x)
  | .tup ds => .tuple (toPs ds)
  | .lst ds => .list (toPs ds)
  | .flst ds => .list (toPs ds)
  | _ => .none
def toPs : List D → List PyData
  | [] => []
  | d :: ds => toP d :: toPs ds
end
abbrev okC (x : List Nat) : Prop := ∀ c, c ∈ x → c < 1114112
mutual
/-- no objects, n levels at most -/
def plN : Nat → D → Prop
  | n, .non => True
  | n, .bl _ => True
  | n, .int _ => True
  | n, .str x => okC x
  | 0, .tup _ => False
  | 0, .lst _ => False
  | 0, .flst _ => False
  | n + 1, .tup ds => plNs n ds
  | n + 1, .lst ds => plNs n ds
  | n + 1, .flst ds => plNs n ds
  | _, _ => False
def plNs : Nat → List D → Prop
  | _, [] => True
  | n, d :: ds => plN n d ∧ plNs n ds
end
theorem toP_str {x : List Nat} (h : okC x) : PyData.canLay0 (.str (tx x)) = true := by
  simpa [PyData.canLay0, PyData.strOk] using h
mutual
theorem pl_py {M : MS} : ∀ (n m : Nat) (d : D), plN n d → n ≤ m → pyN (m + 1) M d = some (toP d) ∧ PyData.canLay0 (toP d) = true ∧ PyData.depth (toP d) ≤ n
  | n, m, .non, _, _ => ⟨rfl, rfl, by simp [toP, PyData.depth]⟩
  | n, m, .bl _, _, _ => ⟨rfl, rfl, by simp [toP, PyData.depth]⟩
  | n, m, .int _, _, _ => ⟨rfl, rfl, by simp [toP, PyData.depth]⟩
  | n, m, .str x, h, _ => ⟨rfl, toP_str (by cases n <;> exact h), by simp [toP, PyData.depth]⟩
  | 0, _, .tup _, h, _ => h.elim
  | 0, _, .lst _, h, _ => h.elim
  | 0, _, .flst _, h, _ => h.elim
  | n + 1, 0, .tup _, _, h => absurd h (by omega)
  | n + 1, 0, .lst _, _, h => absurd h (by omega)
  | n + 1, 0, .flst _, _, h => absurd h (by omega)
  | n + 1, m + 1, .tup ds, h, hm => by
    obtain ⟨h1, h2, h3⟩ := pls_py (M := M) n m ds h (by omega)
    refine ⟨?_, h2, ?_⟩
    · show (mapO (pyN (m + 1) M) ds).map PyData.tuple = _
      rw [h1]; rfl
    · simp only [toP, PyData.depth]; omega
  | n + 1, m + 1, .lst ds, h, hm => by
    obtain ⟨h1, h2, h3⟩ := pls_py (M := M) n m ds h (by omega)
    refine ⟨?_, h2, ?_⟩
    · show (mapO (pyN (m + 1) M) ds).map PyData.list = _
      rw [h1]; rfl
    · simp only [toP, PyData.depth]; omega
  | n + 1, m + 1, .flst ds, h, hm => by
    obtain ⟨h1, h2, h3⟩ := pls_py (M := M) n m ds h (by omega)
    refine ⟨?_, h2, ?_⟩
    · show (mapO (pyN (m + 1) M) ds).map PyData.list = _
      rw [h1]; rfl
    · simp only [toP, PyData.depth]; omega
  | n, m, .obj .., h, _ => by cases n <;> exact h.elim
  | n, m, .dic .., h, _ => by cases n <;> exact h.elim
  | n, m, .glo .., h, _ => by cases n <;> exact h.elim
  | n, m, .ty .., h, _ => by cases n <;> exact h.elim
  | n, m, .exn .., h, _ => by cases n <;> exact h.elim
  | n, m, .cell .., h, _ => by cases n <;> exact h.elim
theorem pls_py {M : MS} : ∀ (n m : Nat) (ds : List D), plNs n ds → n ≤ m → mapO (pyN (m + 1) M) ds = some (toPs ds) ∧ PyData.canLayAll0 (toPs ds) = true ∧ PyData.depthAll (toPs ds) ≤ n
  | n, m, [], _, _ => ⟨rfl, rfl, by simp [toPs, PyData.depthAll]⟩
  | n, m, d :: ds, h, hm => by
    obtain ⟨h1, h2, h3⟩ := pl_py (M := M) n m d h.1 hm
    obtain ⟨g1, g2, g3⟩ := pls_py (M := M) n m ds h.2 hm
    refine ⟨?_, ?_, ?_⟩
    · simp only [mapO, h1, g1, toPs]
    · simp [toPs, PyData.canLayAll0, h2, g2]
    · simp only [toPs, PyData.depthAll]; omega
end
/-- the laws' == -/
def eqvD (d e : D) : Bool := PyData.eqv (toP d) (toP e)
def eqvDs (d e : List D) : Bool := PyData.eqvAll (toPs d) (toPs e)
theorem eqSc_v {d e : D} {b : Bool} (h : eqSc d e = some b) : eqvD d e = b := by
  cases d <;> cases e <;> first | cases h | skip
  all_goals first | rfl | skip
  simp only [eqvD, toP, PyData.eqv]
  rename_i x y
  by_cases hxy : x = y
  · subst hxy; simp
  · have : ¬ tx x = tx y := fun z => hxy (tx_inj.mp z)
    rw [beq_eq_false_iff_ne.mpr this, beq_eq_false_iff_ne.mpr hxy]
theorem eqD_plN {neg : Bool} {d e : D} {M : MS} (n : Nat) (hn : n ≤ 29) (hd : plN n d) (he : plN n e) : eqD neg d e M = .ok (.bl (eqvD d e != neg)) M := by
  unfold eqD
  split
  · rename_i h
    obtain ⟨b, hb⟩ := Option.isSome_iff_exists.mp h
    unfold eqS
    rw [hb, eqSc_v hb]
  · obtain ⟨h1, h2, h3⟩ := pl_py (M := M) n 29 d hd (by omega)
    obtain ⟨g1, g2, g3⟩ := pl_py (M := M) n 29 e he (by omega)
    unfold eqP pyD
    rw [h1, g1]
    have s1 : SeqAt.shaped (toP d) = true := by unfold SeqAt.shaped; simp [h2]; omega
    have s2 : SeqAt.shaped (toP e) = true := by unfold SeqAt.shaped; simp [g2]; omega
    simp only [s1, s2, and_self, if_true]
    rfl
theorem eqD_pl {neg : Bool} {d e : D} {M : MS} (hd : plN 7 d) (he : plN 7 e) : eqD neg d e M = .ok (.bl (eqvD d e != neg)) M := eqD_plN 7 (by omega) hd he
mutual
theorem eqv_refl : ∀ p : PyData, PyData.canLay0 p = true → PyData.eqv p p = true
  | .none, _ => rfl
  | .bool b, _ => by simp [PyData.eqv]
  | .int b, _ => by simp [PyData.eqv]
  | .str b, _ => by simp [PyData.eqv]
  | .list ps, h => by rw [PyData.eqv]; exact eqvAll_refl ps h
  | .tuple ps, h => by rw [PyData.eqv]; exact eqvAll_refl ps h
  | .dict _, h => by cases h
theorem eqvAll_refl : ∀ ps : List PyData, PyData.canLayAll0 ps = true → PyData.eqvAll ps ps = true
  | [], _ => rfl
  | p :: ps, h => by
    obtain ⟨h1, h2⟩ := Bool.and_eq_true_iff.mp (show (PyData.canLay0 p && PyData.canLayAll0 ps) = true from h)
    rw [PyData.eqvAll, eqv_refl p h1, eqvAll_refl ps h2]; rfl
end
theorem eqD_refl {neg : Bool} {d : D} {M : MS} (hd : plN 7 d) : eqD neg d d M = .ok (.bl (true != neg)) M := by
  rw [eqD_pl hd hd]
  have := eqv_refl (toP d) (pl_py (M := M) 7 29 d hd (by omega)).2.1
  unfold eqvD
  rw [this]
theorem eqvD_lst {ds es : List D} : eqvD (.lst ds) (.lst es) = eqvDs ds es := by simp [eqvD, eqvDs, toP, PyData.eqv]
theorem eqvD_str {x y : List Nat} : eqvD (.str x) (.str y) = (x == y) := eqSc_v rfl
theorem eqvD_int {x y : Int} : eqvD (.int x) (.int y) = (x == y) := rfl
theorem eqvD_bl {x y : Bool} : eqvD (.bl x) (.bl y) = (x == y) := rfl
theorem eqvDs_cons {d e : D} {ds es : List D} : eqvDs (d :: ds) (e :: es) = (eqvD d e && eqvDs ds es) := by simp [eqvDs, eqvD, toPs, PyData.eqvAll]
theorem eqvDs_nil : eqvDs [] [] = true := rfl
theorem eqvDs_nc {d : D} {ds : List D} : eqvDs [] (d :: ds) = false := rfl
theorem eqvDs_cn {d : D} {ds : List D} : eqvDs (d :: ds) [] = false := rfl
theorem plNs_map {α : Type} {n : Nat} {g : α → D} : ∀ {xs : List α}, (∀ x, x ∈ xs → plN n (g x)) → plNs n (xs.map g)
  | [], _ => trivial
  | x :: xs, h => ⟨h x List.mem_cons_self, plNs_map fun y hy => h y (List.mem_cons_of_mem _ hy)⟩
/-- texts of the world, ints, lists of them at top -/
@[simp] theorem plN_str {n : Nat} {x : List Nat} : plN n (.str x) = okC x := by cases n <;> rfl
@[simp] theorem plN_int {n : Nat} {x : Int} : plN n (.int x) = True := by cases n <;> rfl
@[simp] theorem plN_bl {n : Nat} {x : Bool} : plN n (.bl x) = True := by cases n <;> rfl
@[simp] theorem plN_non {n : Nat} : plN n .non = True := by cases n <;> rfl
@[simp] theorem plN_lst {n : Nat} {ds : List D} : plN (n + 1) (.lst ds) = plNs n ds := rfl
@[simp] theorem plN_flst {n : Nat} {ds : List D} : plN (n + 1) (.flst ds) = plNs n ds := rfl
@[simp] theorem plN_tup {n : Nat} {ds : List D} : plN (n + 1) (.tup ds) = plNs n ds := rfl
@[simp] theorem plNs_nil {n : Nat} : plNs n [] = True := rfl
@[simp] theorem plNs_cons {n : Nat} {d : D} {ds : List D} : plNs n (d :: ds) = (plN n d ∧ plNs n ds) := rfl
section
variable {sd : SD} {M : MS} {ms : MA} {h : D → List D → MS → Res D}
@[simp] theorem bmK_strS {x : List Nat} : bmK "str" h ms sd (.str x) M = (ms sd M).bind (bmK2 h (.str x)) := if_pos rfl
@[simp] theorem bmK_lstS {ds : List D} : bmK "list" h ms sd (.lst ds) M = (ms sd M).bind (bmK2 h (.lst ds)) := if_pos rfl
@[simp] theorem sL_nil : sL "" = [] := rfl
end
end DL

/-! DL: all, any, sum, sorted, str(int), int(text), split, chains of comparisons. -/
namespace DL
open PySem PySem.Spec L2
open PyProof.Rows hiding St
def blOf : D → Option Bool
  | .bl b => some b
  | _ => none
def intOf : D → Option Int
  | .int b => some b
  | _ => none
def stOf : D → Option (List Nat)
  | .str b => some b
  | _ => none
abbrev blsOf (ds : List D) : Option (List Bool) := mapO blOf ds
abbrev intsOf (ds : List D) : Option (List Int) := mapO intOf ds
abbrev stsOf (ds : List D) : Option (List (List Nat)) := mapO stOf ds
theorem mapO_eq {A : Type} {f : D → Option A} {g : A → D} (h : ∀ d a, f d = some a → d = g a) : ∀ {ds : List D} {as : List A}, mapO f ds = some as → ds = as.map g
  | [], as, e => by cases e; rfl
  | d :: ds, as, e => by
    unfold mapO at e
    cases h1 : f d with
    | none => rw [h1] at e; cases e
    | some a =>
      cases h2 : mapO f ds with
      | none => rw [h1, h2] at e; cases e
      | some bs =>
        rw [h1, h2] at e; cases e
        rw [h d a h1, mapO_eq h h2]; rfl
theorem mapO_map {A : Type} {f : D → Option A} {g : A → D} (h : ∀ a, f (g a) = some a) : ∀ as : List A, mapO f (as.map g) = some as
  | [] => rfl
  | a :: as => by simp only [List.map_cons, mapO, h a, mapO_map h as]
theorem blsOf_eq {ds : List D} {bs : List Bool} (e : blsOf ds = some bs) : ds = bs.map D.bl := mapO_eq (fun d a h => by cases d <;> cases h; rfl) e
theorem intsOf_eq {ds : List D} {bs : List Int} (e : intsOf ds = some bs) : ds = bs.map D.int := mapO_eq (fun d a h => by cases d <;> cases h; rfl) e
theorem stsOf_eq {ds : List D} {bs : List (List Nat)} (e : stsOf ds = some bs) : ds = bs.map D.str := mapO_eq (fun d a h => by cases d <;> cases h; rfl) e
@[simp] theorem blsOf_map (bs : List Bool) : blsOf (bs.map D.bl) = some bs := mapO_map (f := blOf) (g := D.bl) (fun _ => rfl) bs
@[simp] theorem intsOf_map (bs : List Int) : intsOf (bs.map D.int) = some bs := mapO_map (f := intOf) (g := D.int) (fun _ => rfl) bs
@[simp] theorem stsOf_map (bs : List (List Nat)) : stsOf (bs.map D.str) = some bs := mapO_map (f := stOf) (g := D.str) (fun _ => rfl) bs
section
variable {K : PySem.W.Frag} {mg : Str → Option Value} {ro : Pl} {H : Hp}
theorem reps_map {A : Type} {g : A → D} {v : A → V} (h : ∀ a x, Rep K mg ro H (g a) x → x = v a) : ∀ (as : List A) (vs : List V), Reps K mg ro H (as.map g) vs → vs = as.map v
  | [], vs, r => r
  | a :: as, vs, ⟨x, w, e, q, t⟩ => by rw [e, h a x q, reps_map h as w t]; rfl
theorem reps_bls {bs : List Bool} {vs : List V} (r : Reps K mg ro H (bs.map D.bl) vs) : vs = bs.map V.bl := reps_map (g := D.bl) (v := V.bl) (fun _ _ h => h) bs vs r
theorem map_reps {A : Type} {g : A → D} {v : A → V} (h : ∀ a, Rep K mg ro H (g a) (v a)) : ∀ as : List A, Reps K mg ro H (as.map g) (as.map v)
  | [] => rfl
  | a :: as => ⟨_, _, rfl, h a, map_reps h as⟩
end
/-- the items of one list -/
def lst1 (ds : List D) (M : MS) : Option (List D) := match ds with
  | [d] => if isTup d = true then none else seqOf M d
  | _ => none
theorem lst1_at {K : PySem.W.Frag} {mg : Str → Option Value} {ro : Pl} {H : Hp} {M : MS} (R : RelS K mg ro M H) {ds : List D} {xs : List V} {es : List D} (rs : Reps K mg ro H ds xs) (h : lst1 ds M = some es) : ∃ a vs, xs = [.ref a] ∧ SqL K H a vs ∧ Reps K mg ro H es vs := by
  unfold lst1 at h
  split at h
  · rename_i d
    split at h
    · cases h
    · rename_i ht
      obtain ⟨x, rfl, rx⟩ := reps1 rs
      obtain ⟨a, vs, rfl, hq, q⟩ := seq_list R rx h (by simpa using ht)
      exact ⟨a, vs, rfl, hq, q⟩
  · cases h
def allF (ds : List D) (M : MS) : Res D := match (lst1 ds M).bind blsOf with
  | some bs => .ok (.bl (bs.all id)) M
  | none => .stuck
def anyF (ds : List D) (M : MS) : Res D := match (lst1 ds M).bind blsOf with
  | some bs => .ok (.bl (bs.any id)) M
  | none => .stuck
def sumF (ds : List D) (M : MS) : Res D := match (lst1 ds M).bind intsOf with
  | some bs => .ok (.int bs.sum) M
  | none => .stuck
def sortI (ns : List Int) : List Int := ns.mergeSort (fun a b => decide (a ≤ b))
def leS (a b : List Nat) : Bool := !decide (b < a)
def sortT (ns : List (List Nat)) : List (List Nat) := ns.mergeSort leS
def sortedIF (ds : List D) (M : MS) : Res D := match (lst1 ds M).bind intsOf with
  | some bs => if bs.length < 64 then .ok (.lst ((sortI bs).map D.int)) M else .stuck
  | none => .stuck
def sortedSF (ds : List D) (M : MS) : Res D := match (lst1 ds M).bind stsOf with
  | some bs => if bs.length < 64 then .ok (.lst ((sortT bs).map D.str)) M else .stuck
  | none => .stuck
def strIF (ds : List D) (M : MS) : Res D := match ds with
  | [.int i] => if i.natAbs.log2 < 1900 then .ok (.str ((toString i : Str).cps.toList)) M else .stuck
  | _ => .stuck
def intTF (ds : List D) (M : MS) : Res D := match ds with
  | [.str x] => if x.length ≤ 600 then (match PySem.intText? (tx x) with
    | some n => .ok (.int n) M
    | none => .stuck) else .stuck
  | _ => .stuck
theorem sortI_eq {ns ns' : List Int} (p : ns'.Perm ns) (q : ns'.Pairwise (· ≤ ·)) : ns' = sortI ns := by
  refine List.Perm.eq_of_pairwise (le := (· ≤ ·)) (fun a b _ _ h1 h2 => by omega) q ?_ (p.trans (List.mergeSort_perm ns _).symm)
  have := List.pairwise_mergeSort (le := fun a b : Int => decide (a ≤ b)) (fun a b c h1 h2 => by simp at *; omega) (fun a b => by simp; omega) ns
  exact this.imp fun h => by simpa using h
section
variable {X : Cx}
theorem callS_all (hc : X.calm = true) : CallS X (.builtin "all") allF := by
  refine ⟨_, cr_all hc, fun ro H M ds xs E Q R rs P => ?_⟩
  unfold allF at P
  split at P
  · rename_i bs h
    obtain ⟨es, h1, h2⟩ := Option.bind_eq_some_iff.mp h
    obtain ⟨a, vs, rfl, hq, q⟩ := lst1_at R rs h1
    rw [blsOf_eq h2] at q
    rw [reps_bls q] at hq
    exact ⟨a, bs, rfl, hq, PostD.pure (d := .bl _) R rfl P⟩
  · exact P.elim
theorem callS_any (hc : X.calm = true) : CallS X (.builtin "any") anyF := by
  refine ⟨_, cr_any hc, fun ro H M ds xs E Q R rs P => ?_⟩
  unfold anyF at P
  split at P
  · rename_i bs h
    obtain ⟨es, h1, h2⟩ := Option.bind_eq_some_iff.mp h
    obtain ⟨a, vs, rfl, hq, q⟩ := lst1_at R rs h1
    rw [blsOf_eq h2] at q
    rw [reps_bls q] at hq
    exact ⟨a, bs, rfl, hq, PostD.pure (d := .bl _) R rfl P⟩
  · exact P.elim
theorem callS_sum (hc : X.calm = true) : CallS X (.builtin "sum") sumF := by
  refine ⟨_, cr_sum hc, fun ro H M ds xs E Q R rs P => ?_⟩
  unfold sumF at P
  split at P
  · rename_i bs h
    obtain ⟨es, h1, h2⟩ := Option.bind_eq_some_iff.mp h
    obtain ⟨a, vs, rfl, hq, q⟩ := lst1_at R rs h1
    rw [intsOf_eq h2] at q
    rw [Reps.ints q] at hq
    exact ⟨a, bs, rfl, hq, PostD.pure (d := .int _) R rfl P⟩
  · exact P.elim
theorem callS_sortedI : CallS X (.builtin "sorted") sortedIF := by
  refine ⟨_, cr_sorted, fun ro H M ds xs E Q R rs P => ?_⟩
  unfold sortedIF at P
  split at P
  · rename_i bs h
    split at P
    · rename_i h64
      obtain ⟨es, h1, h2⟩ := Option.bind_eq_some_iff.mp h
      obtain ⟨a, vs, rfl, hq, q⟩ := lst1_at R rs h1
      rw [intsOf_eq h2] at q
      rw [Reps.ints q] at hq
      refine ⟨a, bs, rfl, hq, h64, fun ns' p hp ho hn => ?_⟩
      rw [sortI_eq hp ho]
      exact PostD.newL R (map_reps (g := D.int) (v := V.int) (fun _ => rfl) _) P p hn
    · exact P.elim
  · exact P.elim
theorem callS_strI : CallS X (.type "str") strIF := by
  refine ⟨_, call_str_int, fun ro H M ds xs E Q R rs P => ?_⟩
  unfold strIF at P
  split at P
  · split at P
    · rename_i hl
      obtain ⟨v, rfl, rv⟩ := reps1 rs
      cases (show v = V.int _ from rv)
      exact ⟨_, rfl, by omega, PostD.pure (d := .str _) R (by show V.str _ = V.str (tx _); simp [tx]) P⟩
    · exact P.elim
  · exact P.elim
theorem callS_intT : CallS X (.type "int") intTF := by
  refine ⟨_, call_int_str, fun ro H M ds xs E Q R rs P => ?_⟩
  unfold intTF at P
  split at P
  · split at P
    · rename_i hl
      split at P
      · rename_i n hn
        obtain ⟨v, rfl, rv⟩ := reps1 rs
        cases (show v = V.str (tx _) from rv)
        exact ⟨_, n, rfl, hn, by simp only [Str.length, List.size_toArray]; omega, PostD.pure (d := .int _) R rfl P⟩
      · exact P.elim
    · exact P.elim
  · exact P.elim
end
/-! ### a op b op c -/
def chK (f g : D → D → MS → Res D) (c : ME) (sd : SD) (x y : D) : D → MS → Res D := fun z M3 => match z with
  | .bl true => (c sd M3).bind fun w M4 => g y w M4
  | .bl false => .ok (.bl false) M3
  | _ => .stuck
def chE (f g : D → D → MS → Res D) (a b c : ME) : ME := fun sd M => (a sd M).bind fun x M1 => (b sd M1).bind fun y M2 => (f x y M2).bind (chK f g c sd x y)
@[simp] theorem chE_ap {f g : D → D → MS → Res D} {a b c : ME} {sd : SD} {M : MS} : chE f g a b c sd M = (a sd M).bind fun x M1 => (b sd M1).bind fun y M2 => (f x y M2).bind (chK f g c sd x y) := rfl
@[simp] theorem chK_t {f g : D → D → MS → Res D} {c : ME} {sd : SD} {M : MS} {x y : D} : chK f g c sd x y (.bl true) M = (c sd M).bind fun w M4 => g y w M4 := rfl
@[simp] theorem chK_f {f g : D → D → MS → Res D} {c : ME} {sd : SD} {M : MS} {x y : D} : chK f g c sd x y (.bl false) M = .ok (.bl false) M := rfl
section
variable {X : Cx} {W : WX} {a b c : Expr} {ma mb mc : ME} {pos : Pos}
theorem ch_of {op op' : CmpOp} {f g : D → D → MS → Res D} {r r' : R2} (h2 : ∀ (ro : Pl) (H : Hp) (M : MS) (d e : D) (x y : V) (E : XK) (Q : VK), RelS X.K X.mg ro M H → Rep X.K X.mg ro H d x → Rep X.K X.mg ro H e y → PostD X.K X.mg E ro H Q (f d e M) → r x y H Q)
    (h2' : ∀ (ro : Pl) (H : Hp) (M : MS) (d e : D) (x y : V) (E : XK) (Q : VK), RelS X.K X.mg ro M H → Rep X.K X.mg ro H d x → Rep X.K X.mg ro H e y → PostD X.K X.mg E ro H Q (g d e M) → r' x y H Q) {st : St} {H : Hp} {Q : VK}
    (q : liftE X.K X.mg W (chE f g ma mb mc) st H Q) : tChain r r' (liftE X.K X.mg W ma) (liftE X.K X.mg W mb) (liftE X.K X.mg W mc) st H Q := by
  obtain ⟨ro, sd, M, R, S, P⟩ := q
  refine ⟨ro, sd, M, R, S, (Post.bind P).imp fun x H1 ⟨ro1, M1, d, R1, P1, r1, q1⟩ => ?_⟩
  refine ⟨ro1, sd, M1, R1, S.mono P1, (Post.bind q1).imp fun y H2 ⟨ro2, M2, e, R2, P2, r2, q2⟩ => ?_⟩
  refine h2 ro2 H2 M2 d e x y _ _ R2 (Rep.mono P2 d x r1) r2 ((Post.bind q2).imp fun z H3 ⟨ro3, M3, k, R3, P3, r3, q3⟩ => ?_)
  cases k with
  | bl k =>
    cases (show z = V.bl k from r3)
    refine ⟨k, rfl, ?_⟩
    cases k with
    | false =>
      rw [if_neg (by decide)]
      exact PostD.pure (d := .bl false) R3 rfl q3
    | true =>
      rw [if_pos rfl]
      refine ⟨ro3, sd, M3, R3, ((S.mono P1).mono P2).mono P3, (Post.bind (show PostD X.K X.mg (fun c d H' => W c d st H') ro3 H3 Q ((mc sd M3).bind fun w M4 => g e w M4) from q3)).imp fun w H4 ⟨ro4, M4, u, R4, P4, r4, q4⟩ => ?_⟩
      exact h2' ro4 H4 M4 e u y w _ Q R4 (Rep.mono P4 e y (Rep.mono P3 e y r2)) r4 q4
  | _ => exact q3.elim
theorem de_chain {op op' : CmpOp} {f g : D → D → MS → Res D} (ho : OpS X (compareOp op) f) (ho' : OpS X (compareOp op') g) (ha : DE X W a ma) (hb : DE X W b mb) (hc : DE X W c mc)
    (hm : lastMarks [op, op'] [b, c] = false := by with_unfolding_all rfl) : DE X W (.Compare a [op, op'] [b, c] pos) (chE f g ma mb mc) := by
  obtain ⟨r, h1, h2⟩ := ho
  obtain ⟨r', h1', h2'⟩ := ho'
  exact ⟨⟨fun pins s st H Q I q => (pe_chain h1 h1' ha.pe hb.pe hc.pe hm).run pins s st H Q I (ch_of (op := op) (op' := op') h2 h2' q)⟩⟩
theorem dt_chain {op op' : CmpOp} {f g : D → D → MS → Res D} (ho : OpS X (compareOp op) f) (ho' : OpS X (compareOp op') g) (ha : DE X W a ma) (hb : DE X W b mb) (hc : DE X W c mc)
    (hm : lastMarks [op, op'] [b, c] = false := by with_unfolding_all rfl) : DT X W (.Compare a [op, op'] [b, c] pos) (valB (chE f g ma mb mc)) := by
  obtain ⟨r, h1, h2⟩ := ho
  obtain ⟨r', h1', h2'⟩ := ho'
  refine ⟨⟨fun pins s st H Q I q => (pt_chain h1 h1' ha.pe hb.pe hc.pe hm).run pins s st H Q I ?_⟩⟩
  refine ch_of (op := op) (op' := op') h2 h2' ?_
  obtain ⟨ro, sd, M, R, S, P⟩ := q
  have P : PostB X.K X.mg (fun c d H' => W c d st H') ro H Q ((chE f g ma mb mc sd M).bind _) := P
  refine ⟨ro, sd, M, R, S, (Post.bind (R := fun ro' H' d v => Rep X.K X.mg ro' H' d v) P).imp fun z H3 ⟨ro3, M3, g, R3, Pr3, r3, q3⟩ => ?_⟩
  cases g with
  | bl k =>
    cases (show z = V.bl k from r3)
    exact ⟨k, rfl, q3 ro3 H3 k R3 (Pres.refl _ _) rfl⟩
  | _ => exact q3.elim
end
/-! ### split -/
def splF (d : D) (ds : List D) (M : MS) : Res D := match d, ds with
  | .str x, [.str y] => if 0 < y.length ∧ x.length ≤ 900000 then .ok (.lst ((Txt.split (tx x) (tx y)).map fun z => D.str z.cps.toList)) M else .stuck
  | _, _ => .stuck
theorem mtS_split {X : Cx} : MtS X "str" "str.split" splF := by
  refine ⟨_, mt_split, fun ro H M d ds x xs E Q R r rs P => ?_⟩
  unfold splF at P
  split at P
  · split at P
    · rename_i hl
      cases (show x = V.str (tx _) from r)
      obtain ⟨v, rfl, rv⟩ := reps1 rs
      cases (show v = V.str (tx _) from rv)
      refine ⟨_, _, rfl, rfl, ?_, ?_, fun p hp => PostD.newL R ?_ P p hp⟩
      · simp only [Str.length, List.size_toArray]; simp; intro e; rw [e] at hl; simp at hl
      · simp only [Str.length, List.size_toArray]; exact line_le (by omega)
      · exact map_reps (g := fun z : Str => D.str z.cps.toList) (v := V.str) (fun z => by show V.str z = V.str (tx _); simp [tx]) _
    · exact P.elim
  · exact P.elim
end DL

/-! DL: sorted(texts, key=lambda x: (len(x), x)). -/
namespace DL
open PySem PySem.Spec L2
open PyProof.Rows hiding St
/-- lambda x: (len(x), x) -/
structure LenLam (params : Arguments) (body : Expr) (scope : Scope) (x : Str) : Prop where
  bd : ∃ p1 p2 p3 p4 p5 k, body = .Tuple [.Call (.Name "len" p1) [.Name x p2] [] p3, .Name x p4] k p5
  kind : scope.kind = .function
  co : scope.isCoroutine = false
  gen : scope.isGenerator = false
  nocell : ∀ y ∈ scope.names, y.2 ≠ .cell
  loc : scope.names.lookup x = some .local
  len : scope.names.lookup ("len" : Str) = some .globalImplicit
  xd : (x == ("__debug__" : Str)) = false
  bind : ∀ (qual : Str) (cl : List (Str × Addr)) (pm c ctv v : Value), bindArgs (PySem.W.kla_fn "<lambda>" qual params body scope cl pm c ctv) ⟨[v], []⟩ = pure [(x, v)]
theorem lam_key {P : Program} {w : World} {A : Around} {s : Shared} {params : Arguments} {body : Expr} {scope : Scope} {x qual : Str} {cl : List (Str × Addr)} {pm ctv : Value} {f c' : Addr} {mg mb : Str → Option Value} {y : Str} {t : Tok} (L : LenLam params body scope x)
    (hroom : A.depth < recursionLimit) (ho : s.heap.get? f = some (PySem.W.kla_obj "<lambda>" qual params body scope cl pm c' ctv)) (hcd : s.heap.CodeRec (.ref c') qual) (hlim : s.heap.NoLimit)
    (hg : s.heap.Ns mainGlobals mg) (hm : mg "len" = none) (hb : s.heap.Ns builtinsNs mb) (hbb : ∀ x : Str, x ≠ "__name__" → mb x = bootBuiltins x) (hy : y.length < 1000000) :
    wpAny (model P w) A (call (.ref f) [.str y t]) (PySem.W.KeyPure (.tuple [.int y.length, .str y]) s) (fun _ _ => False) s := by
  obtain ⟨p1, p2, p3, p4, p5, k, rfl⟩ := L.bd
  refine wpAny_call ?_
  refine codeAny_mono (R := fun r s' => ∃ v, r = .ok (.ret v) ∧ PySem.W.KeyPure (.tuple [.int y.length, .str y]) s v s') ?_ fun r s' ⟨v, e, h⟩ => by subst e; exact h
  refine PySem.W.kla_callFunE hroom ho rfl L.co L.gen rfl hcd ?_
  rw [L.bind]
  refine wpAny_pure (wpAny_newFunctionEnv L.nocell (fun z hz => by simp at hz; rw [hz]; exact L.loc) (fun h₁ hns hsb => ⟨hlim.fresh _ hsb, ?_⟩) L.kind)
  have hk₁ : ∀ b o, s.heap.get? b = some o → h₁.get? b = some o := fun b o e => hsb.extBut b o (Nat.ne_of_lt (Heap.lt_size e)) (Heap.get?_push_of_some _ e)
  refine PySem.W.kla_codeExpr ?_
  have nameX : ∀ {A' : Around} {E' : Value → Shared → Prop} {Q' : Value → Shared → Prop} {s' : Shared} {p : Pos}, (∀ b o, h₁.get? b = some o → s'.heap.get? b = some o) → Q' (.str y t) s' → wpAny (model P w) A' (eval (.Name x p) (newEnv scope s.heap.objs.size mainGlobals cl (qual ++ ".<locals>.") (some f) (.ref c') none builtinsNs)) Q' E' s' := fun kp h => by
    refine wpAny_Name (wpAny_loadName_local L.kind L.loc (hns.keeps kp) (show (List.reverse [(x, Value.str y t)]).lookup x = some (.str y t) by simp) h) L.xd
  refine wpAny_Tuple_spliced ?_
  have kg : ∀ {b m}, s.heap.Ns b m → h₁.Ns b m := fun h => h.keeps hk₁
  refine Calls.spliced_cons (wpAny_Call_Name_kw (Calls.Name_function_global L.kind L.len (Calls.loadGlobal_builtin (kg hg) hm (kg hb) ((hbb "len" (by decide)).trans boot_len) ?_) (by decide)))
  refine PyProof.Rows.callWith_builtin1 (Calls.spliced_cons (nameX (fun _ _ h => h) (Calls.spliced_nil ?_))) rfl rfl
  refine len_str (by omega) ?_
  refine Calls.spliced_cons (nameX (fun _ _ h => h) (Calls.spliced_nil ⟨by show 2 ≤ sizeLine; decide, ?_⟩))
  refine ⟨_, rfl, _, _, rfl, fun b o e => Heap.get?_push_of_some _ (hk₁ b o e), ?_⟩
  exact .tuple (as := []) (Heap.get?_push_size _ rfl) rfl rfl (.cons (as := []) (bs := []) (.int _ _) (.cons (as := []) (bs := []) (.str _ _) .nil))
def lenKey (x : List Nat) : PyData := .tuple [.int x.length, .str (tx x)]
/-- sorted by length, then as texts -/
def sortLT (xs : List (List Nat)) : List (List Nat) := xs.mergeSort (PySem.W.dataLe false lenKey)
def isTab (i : Nat) (C m : String) (M : MS) : Bool := match M[i]? with
  | some (.tab j C' m') => decide (j = i ∧ C' = C ∧ m' = m)
  | _ => false
def sortLenE (i : Nat) (C m : String) (me : ME) : ME := fun sd M => (me sd M).bind fun d M1 => match (lst1 [d] M1).bind stsOf with
  | some xs => if isTab i C m M1 = true ∧ xs.length ≤ 100000 ∧ (∀ x, x ∈ xs → x.length < 1000000) then .ok (.lst ((sortLT xs).map D.str)) M1 else .stuck
  | none => .stuck
section
variable {X : Cx} {pins : List (Addr × Obj)} {σ : St} {H : Hp} {s : Shared} {P c : Addr} {ps : Array Value} {params : Arguments} {body : Expr} {scope : Scope} {pos : Pos} {E : Value → Shared → Prop} {Q : Value → Shared → Prop}
/-- a lambda's making, told exactly: its code was in the table, or is put there -/
theorem lam_make3 (I : Inv X pins σ H s) (TB : LamX.TabB X.base X.mg c P) (hcode : X.env.code = .ref c) (hP : H P = some (.tbl ps)) (ht : TriplesOk ps.toList)
    (ha : ∀ (pos : Pos) (cv : Value), codeAmong pos ps.toList = some cv → ∃ c, cv = .ref c ∧ H c = some (LamX.CodeO c (X.env.qual ++ "<lambda>")))
    (hdef : defaultsOf params X.env = ([], [])) (hfree : ∀ y ∈ scope.names, y.2 = .free → ∃ c, X.env.cells.lookup y.1 = some c)
    (hit : ∀ (f c' : Addr) (pm ctv : Value) (s' : Shared), Inv X pins σ H s' → H c' = some (LamX.CodeO c' (X.env.qual ++ "<lambda>")) →
      s'.heap.get? f = some (PySem.W.kla_obj "<lambda>" (X.env.qual ++ "<lambda>") params body scope (cloFrom X.env.cells scope.names []) pm c' ctv) → Q (.ref f) s')
    (mis : ∀ (f c' : Addr) (pm ctv : Value) (s' : Shared), H c' = none → Inv X pins σ (upd (upd H P (.tbl (ps ++ #[rawInt pos.line, rawInt pos.col, .ref c']))) c' (LamX.CodeO c' (X.env.qual ++ "<lambda>"))) s' →
      s'.heap.get? f = some (PySem.W.kla_obj "<lambda>" (X.env.qual ++ "<lambda>") params body scope (cloFrom X.env.cells scope.names []) pm c' ctv) → Q (.ref f) s') :
    wpAny (model X.prog X.w) X.A (eval (.Lambda params body scope pos) X.env) Q E s := by
  have tab : s.heap.get? P = some { cls := .none, data := .fields ps } := I.hok P _ hP
  have gl : s.heap.Ns mainGlobals X.mg := I.mod.glob.keeps I.bk
  have cd : PySem.W.CodeHd s.heap c P := TB.code.keeps I.bk
  have bt : s.heap.BuiltinsAt X.mg P := TB.bm.keeps I.bk
  refine PySem.W.kla_eval hdef ?_
  cases found : codeAmong pos ps.toList with
  | some cv =>
    obtain ⟨c', rfl, hc'⟩ := ha pos cv found
    refine PySem.W.kla_makeFunctionHit (mg := X.mg) (c := c) (P := P) (ps := ps) (closure_ok hfree) I.ok.glob gl hcode cd tab ht found bt fun ctv h' tk grow _ => ?_
    exact hit _ c' _ ctv _ (I.kept (t' := tk) fun b o e => Heap.get?_push_of_some _ (grow b o e)) hc' (Heap.get?_push_size _ rfl)
  | none =>
    refine PySem.W.kla_makeFunction (mg := X.mg) (c := c) (P := P) (ps := ps) (closure_ok hfree) I.ok.glob gl hcode cd tab ht found TB.gP bt fun c' ctv h' tk ext old _ rec tab' => ?_
    obtain ⟨_, oc, vs, t, e, ho, hd, hv⟩ := rec
    cases e
    refine mis _ c' _ ctv _ (I.hok.fresh old) ?_ (Heap.get?_push_size _ rfl)
    exact LamX.inv_table (t' := tk) I hP (fun b o hb e => Heap.get?_push_of_some _ (ext b o hb e)) (Heap.get?_push_of_some _ tab') old ⟨oc, vs, t, Heap.get?_push_of_some _ ho, hd, hv⟩
end
section
variable {K : PySem.W.Frag} {mg : Str → Option Value} {ro : Pl} {H : Hp} {M : MS}
theorem isTab_at {i : Nat} {C m : String} (h : isTab i C m M = true) : M[i]? = some (MO.tab i C m) := by
  unfold isTab at h
  split at h
  · rename_i e
    obtain ⟨rfl, rfl, rfl⟩ := of_decide_eq_true h
    exact e
  · cases h
/-- after a lambda's code has been put into the table -/
theorem RelS.lam {i : Nat} {C m : String} {P c' : Addr} {ps : Array Value} {pos : Pos} (R : RelS K mg ro M H) (e : M[i]? = some (MO.tab i C m)) (g : ro.ro[i]? = some P) (hP : H P = some (.tbl ps)) (hc : H c' = none) :
    RelS K mg ro M (upd (upd H P (.tbl (ps ++ #[rawInt pos.line, rawInt pos.col, .ref c']))) c' (LamX.CodeO c' (lamQ C m))) ∧ Pres ro H ro (upd (upd H P (.tbl (ps ++ #[rawInt pos.line, rawInt pos.col, .ref c']))) c' (LamX.CodeO c' (lamQ C m))) := by
  have ne : P ≠ c' := ne_of_none hP hc
  obtain ⟨R1, P1⟩ := R.alloc (o := LamX.CodeO c' (lamQ C m)) hc
  have hout := R.fresh hc
  obtain ⟨ho, e0, ps0, P0, e1, t, gi, k⟩ := R.at_ i _ P e g
  rw [hP] at e0
  cases e0
  cases e1
  have eL : (ps ++ #[rawInt pos.line, rawInt pos.col, .ref c']).toList = ps.toList ++ [rawInt pos.line, rawInt pos.col, .ref c'] := by simp
  have mr : MRel K mg ro (upd H c' (LamX.CodeO c' (lamQ C m))) (.tab i C m) (.tbl (ps ++ #[rawInt pos.line, rawInt pos.col, .ref c'])) := by
    refine ⟨_, P0, rfl, ⟨by rw [eL]; exact PySem.TriplesOk_snoc _ _ _ _ t.1, fun p' cv hcv => ?_⟩, gi, k⟩
    rw [eL] at hcv
    rcases LamX.among_app _ t.1 hcv with z | z
    · obtain ⟨c0, a1, a2, a3⟩ := t.2 p' cv z
      exact ⟨c0, a1, upd_grow hc _ _ a2, a3⟩
    · exact ⟨c', z, upd_same, hout⟩
  obtain ⟨R2, P2⟩ := R1.change g mr
  have eM : M.set i (.tab i C m) = M := by
    obtain ⟨hl, q⟩ := List.getElem?_eq_some_iff.mp e
    rw [← q]; simp
  have eH : upd (upd H c' (LamX.CodeO c' (lamQ C m))) P (.tbl (ps ++ #[rawInt pos.line, rawInt pos.col, .ref c'])) = upd (upd H P (.tbl (ps ++ #[rawInt pos.line, rawInt pos.col, .ref c']))) c' (LamX.CodeO c' (lamQ C m)) := by
    funext b
    by_cases h1 : b = P
    · subst h1; rw [upd_same, upd_ne ne, upd_same]
    · by_cases h2 : b = c'
      · subst h2; rw [upd_ne h1, upd_same, upd_same]
      · rw [upd_ne h1, upd_ne h2, upd_ne h2, upd_ne h1]
  rw [eM, eH] at R2
  rw [eH] at P2
  exact ⟨R2, P1.trans P2⟩
end
theorem each_strs {H : Hp} : ∀ {xs : List (List Nat)} {us : List Value}, Vals ((xs.map tx).map V.str) us → PySem.W.EachIs (fun (v : Value) (x : List Nat) => ∃ t, v = .str (tx x) t) us xs
  | [], us, r => by cases r; exact .nil
  | x :: xs, us, r => by
    cases r with
    | cons r rr => exact .cons r (each_strs (H := H) rr)
theorem vals_each : ∀ {xs : List (List Nat)} {us : List Value}, PySem.W.EachIs (fun (v : Value) (x : List Nat) => ∃ t, v = .str (tx x) t) us xs → Vals ((xs.map tx).map V.str) us
  | _, _, .nil => .nil
  | _, _, .cons h r => .cons h (vals_each r)
/-- sorted by the lambda, in a state where it stands -/
theorem sorted_lam {X : Cx} {pins : List (Addr × Obj)} {st : St} {H : Hp} {s : Shared} {Q : VK} {a f c' : Addr} {k : Nat} {params : Arguments} {body : Expr} {scope : Scope} {x qual : Str} {cl : List (Str × Addr)} {pm ctv : Value} {xs : List (List Nat)} (I : Inv X pins st H s) (L : LenLam params body scope x)
    (hr : Room k X.A) (hml : X.mg "len" = none) (hs : SqL X.K H a ((xs.map tx).map V.str)) (hl : xs.length ≤ 100000) (hx : ∀ x, x ∈ xs → x.length < 1000000) (hf : s.heap.get? f = some (PySem.W.kla_obj "<lambda>" qual params body scope cl pm c' ctv)) (hc : H c' = some (LamX.CodeO c' qual))
    (h : ∀ p, H p = none → Q (.ref p) (upd H p (.lst ((sortLT xs).map (fun z => V.str (tx z)))))) : wpAny (model X.prog X.w) X.A (call (.builtin "sorted") [.ref a] [(Str.ofString "key", .ref f)]) (EP X pins st Q) X.xe s := by
  obtain ⟨its, rv, hI, _⟩ := I.list hs
  have e := each_strs (H := H) rv
  refine PySem.W.sorted_key_data (b := false) lenKey hI.isList e (PySem.W.AllAlike.of fun _ _ => by simp [lenKey, PySem.W.alike, PySem.W.alikeAll]) (PySem.W.Sortable.tuples fun _ => ⟨_, _, rfl⟩) (by rw [sizeLine_eq]; omega) (fun p _ => ?_) (PyProof.Rows.ksk_s1 _ _) (fun _ => PyProof.Rows.ksk_l1 _ _) (fun _ => PyProof.Rows.ksk_t1 _ _)
    (fun v p ⟨t, ev⟩ hp hh tk kp => ?_) fun out c h' tk kp fresh hD hlen eo => ?_
  · have hd : (lenKey p).depth = 1 := by simp [lenKey, PyData.depth, PyData.depthAll]
    have := hr.un
    omega
  · subst ev
    obtain ⟨mb, b1, b2⟩ := I.mod.blt
    have I2 : Inv X pins st H { s with heap := hh, toks := tk } := I.kept kp
    obtain ⟨oc, vs, tq, e1, e2, e3⟩ := (I2.hok c' _ hc).1
    have lk := lam_key (P := X.prog) (w := X.w) (A := X.A.in1.in1) (s := { s with heap := hh, toks := tk }) (y := tx p) (t := t) L (by have := hr.dp; show X.A.depth < _; omega) (kp _ _ hf) ⟨c', oc, vs, tq, rfl, e1, e2, e3⟩ (I2.mod.nolimit.keeps I2.bk) (I2.mod.glob.keeps I2.bk) hml (b1.keeps I2.bk) b2 (by simpa [Str.length] using hx p hp)
    simpa [lenKey, Str.length] using lk
  · have hp' := I.hok.fresh (Nat.le_succ s.heap.objs.size)
    have r' := vals_each eo
    refine ⟨.ref _, upd H (s.heap.objs.size + 1) (.lst ((sortLT xs).map fun z => V.str (tx z))), I.laid (t' := tk) kp (Nat.le_succ _) ⟨?_, out, c, ?_, hD⟩, rfl, h _ hp'⟩
    · rw [List.length_map]
      unfold sortLT
      rw [List.length_mergeSort, sizeLine_eq]; omega
    · rw [List.map_map] at r'
      exact r'
theorem de_sortLen {X : Cx} {W : WX} {i k : Nat} {C m : String} {params : Arguments} {body : Expr} {scope : Scope} {x : Str} {lpos kpos p pos : Pos} {e : Expr} {me : ME} {c P : Addr} (L : LenLam params body scope x) (hnf : ∀ y ∈ scope.names, y.2 ≠ .free)
    (TB : LamX.TabB X.base X.mg c P) (hcode : X.env.code = .ref c) (hq : X.env.qual ++ "<lambda>" = lamQ C m) (hT : IsTab X.K X.mg C m P) (hg : Gl X "sorted") (hm : X.mg "sorted" = none) (hml : X.mg "len" = none) (hr : Room k X.A) (he : DE X W e me)
    (hdef : defaultsOf params X.env = ([], []) := by rfl) (hs2 : starEach [e] X.env = (false, eval e X.env) :: starEach [] X.env := by rfl) (hb : backTo pos (starEach [e] X.env) = (false, eval e X.env) :: backTo pos (starEach [] X.env) := by rfl) (hpl : (backTo pos (starEach [e] X.env)).any (·.1) = false := by rfl) :
    DE X W (.Call (.Name "sorted" p) [e] [⟨some (Str.ofString "key"), .Lambda params body scope lpos, kpos⟩] pos) (sortLenE i C m me) := by
  refine ⟨⟨fun pins s st H Q I q => ?_⟩⟩
  obtain ⟨ro, sd, M, R, S, Pq⟩ := q
  refine wpAny_Call_Name_kw (ld_blt I hg hm boot_sorted ?_)
  refine PyProof.Rows.callWith_kw (thn ((da_cons he da_nil hs2).pa.run pos pins s st H (fun vs H1 => ∃ (ro1 : Pl) (M1 : MS) (xs : List (List Nat)) (a : Addr), vs = [.ref a] ∧ RelS X.K X.mg ro1 M1 H1 ∧ Pres ro H ro1 H1 ∧ SqL X.K H1 a ((xs.map tx).map V.str) ∧ isTab i C m M1 = true ∧ xs.length ≤ 100000 ∧ (∀ x, x ∈ xs → x.length < 1000000) ∧
      PostD X.K X.mg (fun c d H' => W c d st H') ro1 H1 Q (.ok (.lst ((sortLT xs).map D.str)) M1)) I ?first) fun us s1 ⟨vs, H1, I1, r1, q1⟩ => ?_) hb hpl rfl rfl
  case first =>
    refine ⟨ro, sd, M, R, S, ?_⟩
    have Pq : Post _ X.K X.mg (fun c d H' => W c d st H') ro H Q ((me sd M).bind _) := Pq
    unfold consA
    cases em : me sd M with
    | stuck => rw [em] at Pq; exact Pq.elim
    | exc C ns ds M1 => rw [em] at Pq; exact Pq
    | ok d M1 =>
      rw [em, Res.bind_ok] at Pq
      rintro ro1 H1 xs R1 P1 rs
      split at Pq
      · rename_i ys hy
        split at Pq
        · rename_i hc
          obtain ⟨es, h1, h2⟩ := Option.bind_eq_some_iff.mp hy
          obtain ⟨a, vs, rfl, hq', q'⟩ := lst1_at R1 rs h1
          rw [stsOf_eq h2] at q'
          rw [Reps.strs q'] at hq'
          exact ⟨ro1, M1, ys, a, rfl, R1, P1, hq', hc.1, hc.2.1, hc.2.2, Post.moves Pq P1⟩
        · exact Pq.elim
      · exact Pq.elim
  obtain ⟨ro1, M1, xs, a, rfl, R1, P1, hS, hi, hl, hx, PP⟩ := q1
  obtain ⟨u, rfl, ru⟩ := vals1 r1
  obtain rfl : u = Value.ref a := ru
  have e1 := isTab_at hi
  obtain ⟨b, hb'⟩ : ∃ b, ro1.ro[i]? = some b := ⟨_, List.getElem?_eq_getElem (by rw [R1.len]; exact (List.getElem?_eq_some_iff.mp e1).1)⟩
  obtain ⟨ho, eH, ps, P', rfl, t, gi, kT⟩ := R1.at_ i _ b e1 hb'
  have ePP : P' = P := kT.one hT
  subst ePP
  rw [hb'] at gi
  cases gi
  show wpAny _ _ (evalAll ((do let v ← eval (.Lambda params body scope lpos) X.env; standAt pos; pure v) :: [])) _ _ s1
  have fin : ∀ (f c' : Addr) (pm ctv : Value) (s' : Shared) (H2 : Hp), Inv X pins st H2 s' → RelS X.K X.mg ro1 M1 H2 → Pres ro1 H1 ro1 H2 → SqL X.K H2 a ((xs.map tx).map V.str) → H2 c' = some (LamX.CodeO c' (X.env.qual ++ "<lambda>")) →
      s'.heap.get? f = some (PySem.W.kla_obj "<lambda>" (X.env.qual ++ "<lambda>") params body scope (cloFrom X.env.cells scope.names []) pm c' ctv) →
      wpAny (model X.prog X.w) X.A (call (.builtin "sorted") [.ref a] [(Str.ofString "key", .ref f)]) (EP X pins st Q) X.xe s' := fun f c' pm ctv s' H2 I2 R2 P2 hS2 hc2 hf2 =>
    sorted_lam I2 L hr hml hS2 hl hx hf2 hc2 (PostD.newL R2 (map_reps (g := D.str) (v := fun z => V.str (tx z)) (fun _ => rfl) _) (Post.moves PP P2))
  have keepS : ∀ H2 : Hp, (∀ b o, H1 b = some o → (∀ q, o ≠ .tbl q) → H2 b = some o) → SqL X.K H2 a ((xs.map tx).map V.str) := fun H2 k => by
    rcases hS with h | h
    · rcases h with h | ⟨o, h⟩
      · exact .inl (.inl (k _ _ h (fun q z => by cases z)))
      · exact .inl (.inr ⟨o, k _ _ h (fun q z => by cases z)⟩)
    · exact .inr h
  refine wpAny_evalAll_cons (wpAny_bind ?_)
  refine lam_make3 I1 TB hcode eH t.1 (fun p' cv hcv => let ⟨c0, a1, a2, _⟩ := t.2 p' cv hcv; ⟨c0, a1, by rw [hq]; exact a2⟩) hdef (fun y hy e => absurd e (hnf y hy)) (fun f c' pm ctv s' I2 hc2 hf2 => ?_) (fun f c' pm ctv s' hn I2 hf2 => ?_)
  · exact wpAny_bind (wpAny_standAt (wpAny_pure (wpAny_evalAll_nil (fin f c' pm ctv s' H1 I2 R1 (Pres.refl _ _) hS hc2 hf2))))
  · have RL := R1.lam (pos := lpos) (c' := c') e1 hb' eH hn
    rw [← hq] at RL
    exact wpAny_bind (wpAny_standAt (wpAny_pure (wpAny_evalAll_nil (fin f c' pm ctv s' _ I2 RL.1 RL.2 (keepS _ fun b o h1 h2 => by
      rw [upd_ne (ne_of_none h1 hn), upd_ne (fun z => by rw [z, eH] at h1; cases h1; exact h2 _ rfl)]
      exact h1) upd_same hf2))))
end DL

/-! DL: classmethods. -/
namespace DL
open PySem PySem.Spec L2
open PyProof.Rows hiding St
/-- C.m() of a classmethod -/
def cmE0 (C : String) (F : FM) : ME := fun _ M => F [.glo C] M
theorem de_cmeth0 {X : Cx} {W : WX} {k : Nat} {f c p : Addr} {fd : FuncData} {ps : List Str} {F : FM} {C m : String} {mc : Value} {np apos pos : Pos} {pl : Sem Bool} (hgl : Gl X (Str.ofString C)) (hmg : X.mg (Str.ofString C) = some (.ref c)) (r : ClX.CRead X.K c mc) (cm : ClX.CMet X.K c mc (Str.ofString m) p f)
    (hF : DOk X.prog X.w X.K X.mg X.base k f fd ps F) (hr : Room k X.A) (tk : Takes X W) (hps : ps.length = 1) (hb : Binds X.K fd ps [])
    (hd : (Str.ofString C == ("__debug__" : Str)) = false := by decide)
    (ht : eval (.Call (.Attribute (.Name (Str.ofString C) np) (Str.ofString m) apos) [] [] pos) X.env = (do
      let ov ← eval (.Name (Str.ofString C) np) X.env
      standAt apos.atName
      let (f, first) ← holding [ov] (getMethod ov (Str.ofString m) pl)
      callWith pos f first (backTo pos (starEach [] X.env)) (backToKw pos (keywordEach [] X.env))) := by rfl) :
    DE X W (.Call (.Attribute (.Name (Str.ofString C) np) (Str.ofString m) apos) [] [] pos) (cmE0 C F) := by
  refine ⟨⟨fun pins s st H Q I q => ?_⟩⟩
  obtain ⟨ro, sd, M, R, S, P⟩ := q
  refine PySem.W.methodCall_KW (pl := pl) (ld_glob I hgl hmg ?_ hd) ht
  refine ClX.getmethcm_ok I r cm fun s2 I2 => ?_
  refine PySem.W.callWith_M0 (K := X.K) (first := []) ⟨ClX.pin_at I2, I2.kIn⟩ cm.fi ?_
  have rr : Vals [V.ref c] [Value.ref c] := .cons rfl .nil
  have rs : Reps X.K X.mg ro H [D.glo C] [V.ref c] := ⟨_, _, rfl, ⟨c, rfl, hmg⟩, rfl⟩
  refine thn (Q := EP X ((s.heap.objs.size, PySem.W.methodObj (.ref f) (.ref c)) :: pins) st Q) ?_ fun _ _ y => ClX.unpinE y
  refine wpAny_call (PySem.W.method_call (ClX.pin_at I2) (codeAny_mono (hF.run X.A X.stack s2 H ⟨[.ref c], []⟩ [.ref c] [.ref c] Q (WE W st) hr I2.env0 ?_ rr ⟨by rw [hps]; rfl, ro, [.glo C], M, R, rs, P⟩) fun r s' hq => ?_))
  · have b := hb s2 [.ref c] I2.kIn (by rw [hps]; rfl)
    rwa [List.append_nil] at b
  · cases r with
    | error e => exact passAt tk st _ H s2 e s' I2 hq
    | ok fl =>
      cases fl with
      | ret u => exact I2.after hq
      | next => exact False.elim hq
      | brk => exact False.elim hq
      | cont => exact False.elim hq
/-! ### defs that make lambdas -/
/-- the def at f, its code object at c -/
structure FnC (K : PySem.W.Frag) (x qual : Str) (st : Stmt) (f : Addr) (fd : FuncData) (c : Addr) : Prop where
  ex : ∃ (oc : Value) (od : Option Addr) (dV kV doc pm : Value) (an : Option Addr) (ct : Value) (osl : Array (Option Value)), fd = PySem.W.fnOf x qual (defArgs st) (defBody st) (defScope st) dV kV doc pm an (.ref c) ct ∧ K.lookup f = some ⟨oc, od, .func fd, osl⟩
  cd : PySem.W.codeIn K (.ref c) qual = true
  kp : PySem.W.keepIn K (.ref f) = true
theorem funC_ok {P : Program} {w : World} {K : PySem.W.Frag} {mg : Str → Option Value} {base : Heap} {x qual : Str} {st : Stmt} {f c : Addr} {fd : FuncData} {N ps : List Str} {k : Nat} {body : MST} (Fn : FnC K x qual st f fd c) (S : FnScope N ps (defScope st))
    (hbody : ∀ (A : Around) (outer : List Env) (s : Shared) (H : Hp) (E : XK), Room k (A.deeper (envOfC qual (defScope st) s.heap.objs.size f (.ref c))) →
      Ctx (cxOf (L2.CX P w) P w K mg base N qual (defScope st) f (.ref c) A outer s H E) (fun cls d _ H' => E cls d H') →
      DSs (cxOf (L2.CX P w) P w K mg base N qual (defScope st) f (.ref c) A outer s H E) (fun cls d _ H' => E cls d H') (defBody st) body) : DOk P w K mg base (k + 1) f fd ps (runD N.length body) := by
  obtain ⟨oc, od, dV, kV, doc, pm, an, ct, osl, rfl, lk⟩ := Fn.ex
  refine fn_of lk Fn.cd S (fun vs H Q E h => h.1) fun A outer s H vs Q E hr h => ?_
  obtain ⟨hl, ro, ds, M, R, rs, Po⟩ := h
  have hc : Ctx (cxOf (L2.CX P w) P w K mg base N qual (defScope st) f (.ref c) A outer s H E) (fun cls d _ H' => E cls d H') := ⟨takes_of rfl rfl rfl rfl, passes_of rfl, rfl⟩
  refine ⟨_, (hbody A outer s H E hr hc).ps, ro, startD N.length ds, M, R, repSt_start rs, ?_⟩
  unfold runD at Po
  cases e : body (startD N.length ds) M with
  | nx sd M' => rw [e] at Po; exact fun ro' H' st rs q r => Po ro' H' .non rs q rfl
  | ret d M' => rw [e] at Po; exact Po
  | exc C ns ds' sd M' => rw [e] at Po; exact fun ro' H' st cls dd rs q _ r => Po ro' H' cls dd rs q r
  | brk sd M' => rw [e] at Po; exact Po.elim
  | ct sd M' => rw [e] at Po; exact Po.elim
  | stuck => rw [e] at Po; exact Po
/-! ### the law's start with one table -/
def spLaw1 (K : PySem.W.Frag) (T : Addr) : Sp := fun vs H Q _ => ∃ (a : Addr) (ns : List Int), vs = [.ref a] ∧ SqL K H a (ns.map V.int) ∧ ns.length ≤ 63 ∧ H T = some (.tbl #[]) ∧ ∀ H', Q (.bl true) H'
theorem dok_law1 {K : PySem.W.Frag} {mg : Str → Option Value} {P : Program} {w : World} {base : Heap} {k : Nat} {f T : Addr} {fd : FuncData} {x : Str} {F : FM} {C m : String} (hT : IsTab K mg C m T) (h : DOk P w K mg base k f fd [x] F)
    (hlaw : ∀ ns : List Int, ns.length ≤ 63 → ∃ M', F [.flst (ns.map D.int)] [.tab 0 C m] = .ok (.bl true) M') : FnOk P w K mg base (L2.CX P w) k f fd [x] (spLaw1 K T) :=
  FnOk.imp h fun vs H Q E ⟨a, ns, hv, hS, hl, hH, q⟩ => by
    subst hv
    obtain ⟨M', e⟩ := hlaw ns hl
    refine ⟨rfl, ⟨[T], []⟩, [.flst (ns.map D.int)], [.tab 0 C m], ⟨rfl, by simp, fun a h => (by cases h), fun a _ h => (by cases h), fun i mo a h1 h2 => ?_⟩, ?_, ?_⟩
    · cases i with
      | succ i => simp at h1
      | zero =>
        simp at h1 h2
        subst h1 h2
        exact ⟨_, hH, #[], T, rfl, ⟨trivial, fun pos cv hc => by simp [codeAmong] at hc⟩, rfl, hT⟩
    · refine Reps.one ⟨a, ns.map V.int, rfl, ?_, DL.reps_ints ns⟩
      rcases hS with hS | ⟨o, its, n, h1, h2, h3, h4, h5, h6⟩
      · refine .inl ⟨hS, fun z => ?_⟩
        have z : a = T := by simpa [Pl.all] using z
        subst z
        rcases hS with hS | ⟨u, hS⟩ <;> rw [hH] at hS <;> cases hS
      · exact .inr ⟨o, its, n, h1, h2, h3, h4, h5, h6⟩
    · rw [e]
      intro ro' H' v _ _ r
      cases (show v = V.bl true from r)
      exact q H'
theorem walkD1 {l : PySem.W.OpenLaw} {q : Program} {loose : List Str} {XP : (Str → Option Value) → Heap → Prop} {YP : World → Heap → Prop} {d : DefRec} {K : Params → PySem.W.Frag} (x : Str) (k : Nat) (hn : l.most = some 63) (hdf : d.params.defaults = []) (hk : Room k callerA)
    (hY : ∀ (w : World) (h : Heap), YP w h → (K w.params).In h)
    (F : ∀ (w : World) (mg : Str → Option Value) (fa : Addr) (h : Heap), YP w h → (K w.params).In h → h.Ns mainGlobals mg → mg d.name = some (.ref fa) →
      ∃ (fd : FuncData) (c T : Addr), (∀ (s : Shared) (u : Value), BindsTo s fd ⟨[u], []⟩ [(x, u)]) ∧ h.get? T = some { cls := .none, data := .fields #[] } ∧ (K w.params).lookup T = none ∧ PySem.W.codeHdIn (K w.params) c T = true ∧
        ∀ base : Heap, (K w.params).In base → base.Ns mainGlobals mg → LamX.TabB base mg c T → FnOk l.prog w (K w.params) mg base (L2.CX l.prog w) k fa fd [x] (spLaw1 (K w.params) T)) :
    PySem.W.WalkO q loose XP YP l.row.toRowW d [] (fun f vs => PySem.call f vs) :=
  LamX.walk_ofTs (n := 63) (k := k) (x := x) (K := K) (CX := fun w => L2.CX l.prog w) hn (by decide) hdf hk hY (fun w mg fa h Y KX G hm => by
    obtain ⟨fd, c, T, h1, h2, h3, h4, h5⟩ := F w mg fa h Y KX G hm
    refine ⟨fd, [(c, T)], spLaw1 (K w.params) T, fun p hp => ?_, fun p hp => ?_, fun p hp => ?_, h1, fun H a ns hl _ hH hS => ⟨a, ns, rfl, hS, hl, hH (c, T) List.mem_cons_self, fun _ => rfl⟩, fun base b1 b2 b3 => h5 base b1 b2 (b3 (c, T) List.mem_cons_self)⟩
    · have : p = (c, T) := by simpa using hp
      subst this; exact h2
    · have : p = (c, T) := by simpa using hp
      subst this; exact h3
    · have : p = (c, T) := by simpa using hp
      subst this; exact PySem.W.codeHd_of_K KX h4) fun _ _ _ _ _ ⟨_, _, _, _, _, _, _, _, _, _, _, _, z⟩ => z
end DL

/-! DL: x[::-1] of a list or a text; sorted texts. -/
namespace DL
open PySem PySem.Spec L2
open PyProof.Rows hiding St
def revT (z : Str) : Str := ⟨z.cps.toList.reverse.toArray⟩
def tRevA (K : PySem.W.Frag) (te : TE) : TE := fun σ H Q => te σ H fun x H1 => (∃ a xs, x = .ref a ∧ SqL K H1 a xs ∧ ∀ p, H1 p = none → Q (.ref p) (upd H1 p (.lst xs.reverse))) ∨ (∃ z, x = .str z ∧ z.length ≤ sizeLine ∧ Q (.str (revT z)) H1)
theorem picked_rev (z : Str) (t : Tok) : (slicePicked z none none (some (-1, t))).filterMap (z.cps[·]?) = z.cps.toList.reverse := by
  show (sliceRange ((z.length : Int) - 1) (-1) (-1)).filterMap (z.cps[·]?) = _
  rw [PySem.W.krv_sliceRange, PySem.W.krv_range, List.filterMap_reverse]
  show ((List.range z.cps.size).filterMap (z.cps[·]?)).reverse = _
  rw [PySem.W.krv_all]
theorem pe_revA {X : Cx} {e : Expr} {te : TE} {k : Nat} {p1 p2 p3 pos : Pos} (he : PE X e te) : PE X (.Subscript e (.Slice none none (some (.UnaryOp .USub (.Constant (.int 1) k p1) p2)) p3) pos) (tRevA X.K te) := by
  refine ⟨fun pins s σ H Q I h => ?_⟩
  refine Subscript_ (thn (he.run pins s σ H _ I h) fun v s1 ⟨x, H1, I1, r1, q1⟩ => ?_)
  have hst : PO X (some (.UnaryOp .USub (.Constant (.int 1) k p1) p2)) (tPart (tUn (rU fun i => .int (-i)) (tC (.int 1)))) := po_some (pe_un un_neg pe_int)
  refine wpAny_Slice (thn (po_none.run pins s1 σ H1 (fun o H2 => o = none ∧ H2 = H1) I1 ⟨rfl, rfl⟩) fun vl s2 ⟨l, H2, I2, pl, el, e2⟩ => ?_)
  subst el e2
  refine thn (po_none.run pins s2 σ H2 (fun o H3 => o = none ∧ H3 = H2) I2 ⟨rfl, rfl⟩) fun vu s3 ⟨u, H3, I3, pu, eu, e3⟩ => ?_
  subst eu e3
  refine thn (hst.run pins s3 σ H3 (fun o H4 => o = some (-1) ∧ H4 = H3) I3 ⟨1, rfl, -1, rfl, rfl, rfl⟩) fun vs s4 ⟨o, H4, I4, ps, eo, e4⟩ => ?_
  subst eo e4
  have I5 : Inv X pins σ H4 { s4 with heap := s4.heap.push { cls := .type "slice", data := .fields #[vl, vu, vs] } } := I4.kept (t' := s4.toks) fun b ob q => Heap.get?_push_of_some _ q
  rcases q1 with ⟨a, xs, ex, hx, q⟩ | ⟨z, ex, hz, q⟩
  · subst ex
    cases r1
    obtain ⟨its, r, ht, hz⟩ := I5.list hx
    have hlen := r.length
    show wpAny (model X.prog X.w) X.A (subscriptTail e (.Slice none none (some (.UnaryOp .USub (.Constant (.int 1) k p1) p2)) p3) (.ref a) (.ref s4.heap.objs.size)) (EP X pins σ Q) X.xe { s4 with heap := s4.heap.push { cls := .type "slice", data := .fields #[vl, vu, vs] } }
    refine tail_any (ops := [.ref a, .ref s4.heap.objs.size]) ht.isList.typeIs (PySem.slot_list_getitem.lookup) ?_ (by with_unfolding_all rfl)
    refine wpAny_getItem_list_slice ht.isList (Heap.IsSliceOf.new _ vl vu vs) pl pu ps (by decide) ?_ (by rw [List.size_toArray]; omega)
    rw [PySem.W.krv_pick]
    refine ⟨.ref _, _, I5.laid (t' := s4.toks) (o := .lst xs.reverse) (fun b ob q => Heap.get?_push_of_some _ q) (Nat.le_refl _) ?_, rfl, q _ (I5.hok.fresh (Nat.le_refl _))⟩
    exact ⟨by rw [List.length_reverse]; exact hz, _, 0, r.reverse, Heap.get?_push_size _ rfl⟩
  · subst ex
    obtain ⟨t, rfl⟩ := r1
    obtain ⟨l, rfl, el⟩ := IsPart.raw pl
    obtain ⟨u, rfl, eu⟩ := IsPart.raw pu
    obtain ⟨w, rfl, ew⟩ := IsPart.raw ps
    cases l with
    | some l => cases el
    | none =>
    cases u with
    | some l => cases eu
    | none =>
    cases w with
    | none => cases ew
    | some w =>
    obtain ⟨w1, w2⟩ := w
    have : w1 = -1 := by simpa using ew
    subst this
    show wpAny (model X.prog X.w) X.A (subscriptTail e (.Slice none none (some (.UnaryOp .USub (.Constant (.int 1) k p1) p2)) p3) (.str z t) (.ref s4.heap.objs.size)) (EP X pins σ Q) X.xe _
    refine tail_any (T := "str") (ops := [.str z t, .ref s4.heap.objs.size]) (typeIs_str _ _ _) F.slot_str_getitem.lookup ?_ (by with_unfolding_all rfl)
    refine wpAny_getItem_str_slice (l := none) (u := none) (st := some (-1, w2)) ⟨_, Heap.get?_push_size _ rfl, rfl, rfl⟩ rfl ?_
    show Made.post (if (false && _) = true then Made.val (.str z t) else Made.str ⟨((slicePicked z none none (some (-1, w2))).filterMap (z.cps[·]?)).toArray⟩) (EP X pins σ Q) _
    rw [if_neg (by simp), picked_rev]
    refine ⟨?_, .str _, H4, I5.tok _, ⟨_, rfl⟩, q⟩
    simpa [Str.length] using hz
def revAE (mo : ME) : ME := fun sd M => (mo sd M).bind fun d M1 => match d with
  | .str x => if x.length ≤ 1000000 then .ok (.str x.reverse) M1 else .stuck
  | d => if isTup d = true then .stuck else match seqOf M1 d with
    | some ds => .ok (.lst ds.reverse) M1
    | none => .stuck
theorem revT_tx (x : List Nat) : revT (tx x) = tx x.reverse := by
  simp [revT, tx]
theorem de_revA {X : Cx} {W : WX} {e : Expr} {mo : ME} {k : Nat} {p1 p2 p3 pos : Pos} (he : DE X W e mo) : DE X W (.Subscript e (.Slice none none (some (.UnaryOp .USub (.Constant (.int 1) k p1) p2)) p3) pos) (revAE mo) := by
  refine ⟨⟨fun pins s st H Q I q => (pe_revA he.pe).run pins s st H Q I ?_⟩⟩
  obtain ⟨ro, sd, M, R, S, P⟩ := q
  refine ⟨ro, sd, M, R, S, (Post.bind P).imp fun x H1 ⟨ro1, M1, d, R1, P1, r1, q1⟩ => ?_⟩
  have key : PostD X.K X.mg (fun c d H' => W c d st H') ro1 H1 Q (if isTup d = true then .stuck else match seqOf M1 d with | some ds => .ok (.lst ds.reverse) M1 | none => .stuck) → (∃ a xs, x = .ref a ∧ SqL X.K H1 a xs ∧ ∀ p, H1 p = none → Q (.ref p) (upd H1 p (.lst xs.reverse))) := fun q1 => by
    split at q1
    · exact q1.elim
    · rename_i ht
      split at q1
      · rename_i ds hs
        obtain ⟨a, vs, rfl, q, rs⟩ := seq_list R1 r1 hs (by simpa using ht)
        exact ⟨a, vs, rfl, q, PostD.newL R1 rs.rev q1⟩
      · exact q1.elim
  cases d with
  | str z =>
    have q1 : PostD X.K X.mg (fun c d H' => W c d st H') ro1 H1 Q (if z.length ≤ 1000000 then .ok (.str z.reverse) M1 else .stuck) := q1
    cases (show x = V.str (tx z) from r1)
    split at q1
    · rename_i hz
      exact .inr ⟨tx z, rfl, by simp only [Str.length, List.size_toArray]; exact line_le hz, by rw [revT_tx]; exact PostD.pure (d := .str z.reverse) R1 rfl q1⟩
    · exact q1.elim
  | _ => exact .inl (key q1)
@[simp] theorem revE_ap {me : ME} {sd : SD} {M : MS} : revAE me sd M = (me sd M).bind fun d M1 => match d with
  | .str x => if x.length ≤ 1000000 then .ok (.str x.reverse) M1 else .stuck
  | d => if isTup d = true then .stuck else match seqOf M1 d with
    | some ds => .ok (.lst ds.reverse) M1
    | none => .stuck := rfl
/-! ### the table of a code object -/
def tabIn (K : PySem.W.Frag) (c : Addr) : Option Value := match K.lookup c with
  | some ⟨_, _, .fields vs, _⟩ => vs[11]?
  | _ => none
/-! ### sorted texts -/
theorem leS_total (a b : List Nat) : (leS a b || leS b a) = true := by
  unfold leS
  by_cases h : b < a
  · have : ¬ a < b := fun h2 => List.lt_irrefl _ (List.lt_trans h h2)
    simp [h, this]
  · simp [h]
theorem leS_trans (a b c : List Nat) (h1 : leS a b = true) (h2 : leS b c = true) : leS a c = true := by
  unfold leS at *
  simp only [Bool.not_eq_true', decide_eq_false_iff_not, List.not_lt] at *
  exact List.le_trans h1 h2
theorem leS_anti (a b : List Nat) (h1 : leS a b = true) (h2 : leS b a = true) : a = b := by
  unfold leS at *
  simp only [Bool.not_eq_true', decide_eq_false_iff_not, List.not_lt] at *
  exact List.le_antisymm h1 h2
theorem ltCps_lt : ∀ (a b : List Nat), ltCps a b = decide (a < b)
  | [], [] => by simp [ltCps]
  | [], _ :: _ => by simp [ltCps]
  | _ :: _, [] => by simp [ltCps]
  | x :: a, y :: b => by
    have ih := ltCps_lt a b
    unfold ltCps
    rw [ih]
    by_cases h : x < y
    · simp [h, List.cons_lt_cons_iff]
    · by_cases h2 : x = y
      · subst h2; simp [List.cons_lt_cons_iff]
      · simp [h, h2, List.cons_lt_cons_iff]
theorem rising_pw : ∀ (xs : List (List Nat)) (p : List Nat), risingS (tx p) (xs.map tx) = true → (p :: xs).Pairwise (fun a b => leS a b = true)
  | [], p, _ => by simp
  | x :: xs, p, h => by
    have h : (!ltCps x.toArray.toList p.toArray.toList && risingS (tx x) (xs.map tx)) = true := h
    simp only [Bool.and_eq_true, Bool.not_eq_true', ltCps_lt] at h
    obtain ⟨h1, h2⟩ := h
    have ih := rising_pw xs x h2
    have e : leS p x = true := by unfold leS; rw [h1]; rfl
    refine List.Pairwise.cons (fun y hy => ?_) ih
    rcases List.mem_cons.mp hy with rfl | hy
    · exact e
    · exact leS_trans _ _ _ e ((List.pairwise_cons.mp ih).1 y hy)
theorem sortT_eq {ns ns' : List (List Nat)} (p : ns'.Perm ns) (q : ns'.Pairwise (fun a b => leS a b = true)) : ns' = sortT ns := by
  refine List.Perm.eq_of_pairwise (le := fun a b => leS a b = true) (fun a b _ _ h1 h2 => leS_anti a b h1 h2) q ?_ (p.trans (List.mergeSort_perm ns _).symm)
  exact List.pairwise_mergeSort (le := leS) leS_trans leS_total ns
theorem tx_map_of_perm {ys : List Str} {xs : List (List Nat)} (h : ys.Perm (xs.map tx)) : ∃ zs : List (List Nat), ys = zs.map tx ∧ zs.Perm xs := by
  have e : ys = (ys.map (fun y : Str => y.cps.toList)).map tx := by
    rw [List.map_map]
    conv => lhs; rw [← List.map_id ys]
    apply List.map_congr_left
    intro y hy
    simp [tx]
  refine ⟨_, e, ?_⟩
  have := h.map (fun y : Str => y.cps.toList)
  rw [List.map_map] at this
  have e2 : xs.map ((fun y : Str => y.cps.toList) ∘ tx) = xs := by
    conv => rhs; rw [← List.map_id xs]
    apply List.map_congr_left
    intro y hy
    simp [tx]
  rwa [e2] at this
theorem callS_sortedS {X : Cx} : CallS X (.builtin "sorted") sortedSF := by
  refine ⟨_, cr_sortedS, fun ro H M ds xs E Q R rs P => ?_⟩
  unfold sortedSF at P
  split at P
  · rename_i bs h
    split at P
    · rename_i h64
      obtain ⟨es, h1, h2⟩ := Option.bind_eq_some_iff.mp h
      obtain ⟨a, vs, rfl, hq, q⟩ := lst1_at R rs h1
      rw [stsOf_eq h2] at q
      rw [Reps.strs q] at hq
      refine ⟨a, bs.map tx, rfl, hq, by simpa using h64, fun ys p hp ho hn => ?_⟩
      obtain ⟨zs, rfl, hz⟩ := tx_map_of_perm hp
      have : zs = sortT bs := sortT_eq hz (by
        cases zs with
        | nil => exact .nil
        | cons z zs => exact rising_pw zs z ho)
      subst this
      rw [List.map_map]
      exact PostD.newL R (map_reps (g := D.str) (v := V.str ∘ tx) (fun _ => rfl) _) P p hn
    · exact P.elim
  · exact P.elim
/-! ### the order by length, then as texts -/
def leLT (x y : List Nat) : Bool := decide (x.length < y.length) || (decide (x.length = y.length) && leS x y)
theorem dataLe_len : PySem.W.dataLe false lenKey = leLT := by
  funext a b
  show (!PySem.W.dataLt (lenKey b) (lenKey a)) = _
  unfold lenKey leLT leS
  rw [PySem.W.dataLt_pair (by simp [PySem.W.alike]) (by simp [PySem.W.alike]), PySem.W.dataLt_int, PySem.W.dataLt_str]
  simp only [PyData.eqv, beq_iff_eq]
  have e1 : (tx b).cps.toList = b := by simp [tx]
  have e2 : (tx a).cps.toList = a := by simp [tx]
  have e3 : (tx b = tx a) ↔ b = a := tx_inj
  by_cases h1 : b.length = a.length
  · have h1' : ((b.length : Int) = (a.length : Int)) := by omega
    rw [if_pos h1']
    by_cases h2 : b = a
    · subst h2
      have : ¬ b < b := List.lt_irrefl _
      simp [this]
    · have h3 : ¬ tx b = tx a := fun z => h2 (e3.mp z)
      rw [if_neg h3]
      simp [h1, Nat.lt_irrefl]
  · have h1' : ¬ ((b.length : Int) = (a.length : Int)) := by omega
    rw [if_neg h1']
    by_cases h2 : b.length < a.length
    · have h3 : ¬ a.length < b.length := by omega
      have h4 : ¬ a.length = b.length := by omega
      simp [h2, h3, h4]
    · have h3 : a.length < b.length := by omega
      simp [h2, h3]
theorem sortLT_eq {ns ns' : List (List Nat)} (p : ns'.Perm ns) (q : ns'.Pairwise (fun a b => leLT a b = true)) : sortLT ns = ns' := by
  unfold sortLT
  rw [dataLe_len]
  have T : PySem.W.TotalLe leLT := by rw [← dataLe_len]; exact PySem.W.sortLe_total _ _ _
  refine (List.Perm.eq_of_pairwise (le := fun a b => leLT a b = true) (fun a b _ _ h1 h2 => ?_) q ?_ (p.trans (List.mergeSort_perm ns _).symm)).symm
  · unfold leLT at h1 h2
    simp only [Bool.or_eq_true, Bool.and_eq_true, decide_eq_true_eq] at h1 h2
    rcases h1 with h1 | ⟨h1, h1'⟩
    · rcases h2 with h2 | ⟨h2, _⟩ <;> omega
    · rcases h2 with h2 | ⟨_, h2'⟩
      · omega
      · exact leS_anti _ _ h1' h2'
  · exact List.pairwise_mergeSort (le := leLT) T.trans (fun a b => by rcases T.total a b with h | h <;> simp [h]) ns
theorem isTab0 {C m : String} {M : MS} (h : M[0]? = some (.tab 0 C m)) : isTab 0 C m M = true := by
  unfold isTab
  rw [h]
  simp
theorem sortLenE_ap {i : Nat} {C m : String} {me : ME} {sd : SD} {M : MS} : sortLenE i C m me sd M = (me sd M).bind fun d M1 => match (lst1 [d] M1).bind stsOf with
  | some xs => if isTab i C m M1 = true ∧ xs.length ≤ 100000 ∧ (∀ x, x ∈ xs → x.length < 1000000) then .ok (.lst ((sortLT xs).map D.str)) M1 else .stuck
  | none => .stuck := rfl
/-! ### running own operators on objects -/
section
variable {C m : String} {okT : TN → Bool} {F : FM} {ns ns' bs : List String} {ds ds' es : List D} {d e r : D} {M M' : MS} {b : Bool} {i : Int} {x : List Nat} {sd : SD} {a : ME} {ms : MA} {n : Nat} {g : List D → List D}
theorem binO_obj (h : F [.obj C ns ds, .obj C ns' ds'] M = .ok r M') : binO C F (.obj C ns ds) (.obj C ns' ds') M = .ok r M' := by unfold binO isIns ownR; simp [h]
theorem eqO_obj (ht : isTN M (okE C bs) e = true) (h : F [.obj C ns ds, e] M = .ok r M') : eqO C (okE C bs) F (.obj C ns ds) e M = .ok r M' := by unfold eqO isIns ownR; simp [h, ht]
theorem neO_obj (ht : isTN M (okE C bs) e = true) (h : F [.obj C ns ds, e] M = .ok (.bl b) M') : neO C (okE C bs) F (.obj C ns ds) e M = .ok (.bl (!b)) M' := by unfold neO isIns ownR; simp [h, ht, isBl]
theorem invO_obj (h : F [.obj C ns ds] M = .ok r M') : invO C F (.obj C ns ds) M = .ok r M' := by unfold invO isIns ownR; simp [h]
theorem lenO_obj (h : F [.obj C ns ds] M = .ok (.int i) M') (hi : 0 ≤ i ∧ i < 2 ^ 63) : call1O C F isLen [.obj C ns ds] M = .ok (.int i) M' := by
  unfold call1O isIns ownR
  have : isLen (.int i) = true := decide_eq_true hi
  simp [h, this]
theorem strO_obj (h : F [.obj C ns ds] M = .ok (.str x) M') : call1O C F isStrD [.obj C ns ds] M = .ok (.str x) M' := by unfold call1O isIns ownR; simp [h, isStrD]
theorem truO_obj (h : F [.obj C ns ds] M = .ok (.bl b) M') : truO C F (.obj C ns ds) M = .ok b M' := by unfold truO isIns; simp [h]
theorem boolO_obj (h : F [.obj C ns ds] M = .ok (.bl b) M') : boolOF C F [.obj C ns ds] M = .ok (.bl b) M' := by unfold boolOF; simp [truO_obj h]
@[simp] theorem truOB_ap : truOB C F a sd M = (a sd M).bind (truO C F) := rfl
theorem methK_obj (h : ns.contains m = false) : methK C m n F g ms sd (.obj C ns ds) M = (ms sd M).bind (methK2 n F g (.obj C ns ds)) := methK_ap (by unfold insOf; simp [h]; simpa using h)
theorem isTN_obj : isTN M (okE C bs) (.obj C ns ds) = true := by unfold isTN tnD okE; simp
theorem isTN_str (h : "str" ∈ bs) : isTN M (okE C bs) (.str x) = true := by unfold isTN tnD okE; simp [h]
@[simp] theorem cmE0_ap : cmE0 C F sd M = F [.glo C] M := rfl
def notTK : Bool → MS → Res D := fun b M1 => .ok (.bl (!b)) M1
@[simp] theorem notTE_ap {t : MB} : notTE t sd M = (t sd M).bind notTK := rfl
@[simp] theorem notTK_ap {b : Bool} : notTK b M = .ok (.bl (!b)) M := rfl
theorem allF_map {α : Type} {p : α → Bool} {xs : List α} : allF [.lst (xs.map fun c => D.bl (p c))] M = .ok (.bl (xs.all p)) M := by
  have e : (xs.map fun c => D.bl (p c)) = (xs.map p).map D.bl := by rw [List.map_map]; rfl
  unfold allF
  show (match (blsOf (xs.map fun c => D.bl (p c))) with | some bs => Res.ok (D.bl (bs.all id)) M | none => .stuck) = _
  rw [e, blsOf_map]
  simp
theorem anyF_map {α : Type} {p : α → Bool} {xs : List α} : anyF [.lst (xs.map fun c => D.bl (p c))] M = .ok (.bl (xs.any p)) M := by
  have e : (xs.map fun c => D.bl (p c)) = (xs.map p).map D.bl := by rw [List.map_map]; rfl
  unfold anyF
  show (match (blsOf (xs.map fun c => D.bl (p c))) with | some bs => Res.ok (D.bl (bs.any id)) M | none => .stuck) = _
  rw [e, blsOf_map]
  simp
theorem addD_lst (h : (ds.length + es.length) ≤ 1000000) : addD (.lst ds) (.lst es) M = .ok (.lst (ds ++ es)) M := by
  unfold addD
  rw [if_neg (by simp [isI2]), if_neg (by simp [isS2]), if_neg (by simp [isT2])]
  unfold addL
  simp [isTup, h]
theorem itK_cell (h : M[n]? = some (.lst ds)) : itK (.cell n) M = .ok ⟨ds, fun M' => M'[n]? = some (.lst ds)⟩ M := by
  unfold itK itD
  simp only [h]
open Classical in
/-- a comprehension over a typed list that changes nothing, over any place -/
theorem lc_typedC {chk : MS → Prop} {α : Type} {g : α → D} {p : α → Bool} {f : α → D} {xs : List α} {w : SD} {i : Nat} {tt : MB} {te : ME} (hc : chk M) (hl : xs.length ≤ 1000000) (h : ∀ x, x ∈ xs → tt (w.set i (some (g x))) M = .ok (p x) M ∧ (p x = true → te (w.set i (some (g x))) M = .ok (f x) M)) :
    lcGo chk (nameG i) tt te w (xs.map g) [] M = .ok ((xs.filter p).map f) M := by
  have key : ∀ (xs : List α) (acc : List D), acc.length + xs.length ≤ 1000000 → (∀ x, x ∈ xs → tt (w.set i (some (g x))) M = .ok (p x) M ∧ (p x = true → te (w.set i (some (g x))) M = .ok (f x) M)) →
      lcGo chk (nameG i) tt te w (xs.map g) acc M = .ok (acc ++ (xs.filter p).map f) M := by
    intro xs
    induction xs with
    | nil => intro acc _ _; simp [lcGo, hc]
    | cons x xs ih =>
      intro acc hl h
      obtain ⟨h1, h2⟩ := h x List.mem_cons_self
      have h3 : ∀ y, y ∈ xs → _ := fun y hy => h y (List.mem_cons_of_mem _ hy)
      rw [List.map_cons]
      unfold lcGo
      rw [if_pos hc, nameG_ap]
      dsimp only
      rw [h1, Res.ne_ok, Res.bind_ok]
      cases hp : p x with
      | false => simp only [Bool.false_eq_true, if_false]; rw [ih acc (by simp at hl; omega) h3]; simp [hp]
      | true =>
        rw [if_pos rfl, h2 hp, Res.ne_ok, Res.bind_ok, if_pos (by simp at hl; omega), ih (acc ++ [f x]) (by simp at hl ⊢; omega) h3]
        simp [hp]
  have := key xs [] (by simpa using hl) h
  simpa using this
theorem lc_mapC {chk : MS → Prop} {α : Type} {g : α → D} {f : α → D} {xs : List α} {w : SD} {i : Nat} {te : ME} (hc : chk M) (hl : xs.length ≤ 1000000) (h : ∀ x, x ∈ xs → te (w.set i (some (g x))) M = .ok (f x) M) :
    lcGo chk (nameG i) yesB te w (xs.map g) [] M = .ok (xs.map f) M := by
  have := lc_typedC (tt := yesB) (te := te) (p := fun _ => true) (f := f) (M := M) (w := w) (i := i) (g := g) hc hl fun x hx => ⟨rfl, fun _ => h x hx⟩
  rwa [List.filter_eq_self.mpr (fun _ _ => rfl)] at this
end
end DL

/-! DL: list.index of texts. -/
namespace DL
open PySem PySem.Spec L2
open PyProof.Rows hiding St
def indexF (d : D) (ds : List D) (M : MS) : Res D := match ds with
  | [.str y] => (match (lst1 [d] M).bind stsOf with
    | some xs => if y ∈ xs then .ok (.int (xs.idxOf y : Nat)) M else .stuck
    | none => .stuck)
  | _ => .stuck
def isNF (d e : D) (M : MS) : Res D := match e with
  | .non => .ok (.bl (isN d)) M
  | _ => .stuck
def notNF (d e : D) (M : MS) : Res D := match e with
  | .non => .ok (.bl (!isN d)) M
  | _ => .stuck
section
variable {X : Cx}
theorem opS_isNF : OpS X (compareOp .Is) isNF := opS_isN
theorem opS_notNF : OpS X (compareOp .IsNot) notNF := opS_notN
theorem eqV_tx (a b : List Nat) : eqV (V.str (tx a)) (V.str (tx b)) = decide (a = b) := by
  have : eqV (V.str (tx a)) (V.str (tx b)) = (tx a == tx b) := by simp [eqV]
  rw [this]
  by_cases h : a = b
  · subst h; simp
  · have : ¬ tx a = tx b := fun z => h (tx_inj.mp z)
    simp [h, this]
theorem mtS_index : MtS X "list" "list.index" indexF := by
  refine ⟨_, mt_index, fun ro H M d ds x xs E Q R r rs P => ?_⟩
  unfold indexF at P
  split at P
  · rename_i y
    split at P
    · rename_i bs h
      split at P
      · rename_i hy
        obtain ⟨es, h1, h2⟩ := Option.bind_eq_some_iff.mp h
        obtain ⟨a, vs, e1, hq, q⟩ := lst1_at R (Reps.one r) h1
        cases e1
        obtain ⟨v, rfl, rv⟩ := reps1 rs
        cases (show v = V.str (tx y) from rv)
        rw [stsOf_eq h2] at q
        have q := Reps.strs q
        subst q
        rw [List.map_map] at hq
        have hi := List.idxOf_lt_length_iff.mpr hy
        have hg : bs[bs.idxOf y]? = some y := by
          rw [List.getElem?_eq_getElem hi]
          congr 1
          exact List.getElem_idxOf hi
        refine ⟨a, _, V.str (tx y), bs.idxOf y, V.str (tx y), rfl, rfl, hq, rfl, ?_, ?_, ?_, fun m z' hm hz => ?_, PostD.pure (d := .int _) R rfl P⟩
        · rw [List.all_eq_true]
          intro z hz
          obtain ⟨b, _, rfl⟩ := List.mem_map.mp hz
          rfl
        · rw [List.getElem?_map, hg]; rfl
        · rw [eqV_tx]; simp
        · rw [List.getElem?_map] at hz
          cases hb : bs[m]? with
          | none => rw [hb] at hz; cases hz
          | some b =>
            rw [hb] at hz
            cases hz
            show eqV (V.str (tx b)) (V.str (tx y)) = false
            rw [eqV_tx, decide_eq_false_iff_not]
            rintro rfl
            obtain ⟨hml, hme⟩ := List.getElem?_eq_some_iff.mp hb
            have := List.not_of_lt_findIdx (p := (· == b)) (xs := bs) (show m < bs.findIdx (· == b) from hm)
            simp [hme] at this
      · exact P.elim
    · exact P.elim
  · exact P.elim
end
end DL

/-! DL: running slices, f-strings, while, `in` over texts. -/
namespace DL
open PySem PySem.Spec L2
open PyProof.Rows hiding St
section
variable {sd : SD} {M : MS} {d e : D} {ds es : List D} {x y : List Nat} {mo m : ME} {lo hi : MO'} {l h : Option Int}
def slK1 (lo hi : MO') (sd : SD) : D → MS → Res D := fun d M1 => (lo sd M1).bind fun l M2 => (hi sd M2).bind fun h M3 => sliceD d l h M3
def slK2 (hi : MO') (sd : SD) (d : D) : Option Int → MS → Res D := fun l M2 => (hi sd M2).bind fun h M3 => sliceD d l h M3
def slK3 (d : D) (l : Option Int) : Option Int → MS → Res D := fun h M3 => sliceD d l h M3
def soK : D → MS → Res (Option Int) := fun d M1 => match d with
  | .int i => .ok (some i) M1
  | _ => .stuck
@[simp] theorem slE_ap : slE mo lo hi sd M = (mo sd M).bind (slK1 lo hi sd) := rfl
@[simp] theorem slK1_ap : slK1 lo hi sd d M = (lo sd M).bind (slK2 hi sd d) := rfl
@[simp] theorem slK2_ap : slK2 hi sd d l M = (hi sd M).bind (slK3 d l) := rfl
@[simp] theorem slK3_ap : slK3 d l h M = sliceD d l h M := rfl
@[simp] theorem noO_ap : noO sd M = .ok none M := rfl
@[simp] theorem soO_ap : soO m sd M = (m sd M).bind soK := rfl
@[simp] theorem soK_ap {i : Int} : soK (.int i) M = .ok (some i) M := rfl
@[simp] theorem sliceD_lst : sliceD (.lst ds) l h M = .ok (.lst (cutL ds l h)) M := rfl
@[simp] theorem sliceD_tup : sliceD (.tup ds) l h M = .ok (.tup (cutL ds l h)) M := rfl
theorem sliceD_str (hx : x.length ≤ 1000000) : sliceD (.str x) l h M = .ok (.str (cutL x l h)) M := if_pos hx
theorem sliceD_cell {n : Nat} (hm : M[n]? = some (.lst ds)) : sliceD (.cell n) l h M = .ok (.lst (cutL ds l h)) M := by
  show (match seqOf M (.cell n) with | some ds => Res.ok (D.lst (cutL ds l h)) M | none => .stuck) = _
  have : seqOf M (.cell n) = some ds := by simp [seqOf, hm]
  rw [this]
theorem cutL_to {α : Type} (xs : List α) (k : Nat) : cutL xs none (some (k : Int)) = xs.take k := by
  unfold cutL
  rw [HT.sIx_none, HT.sIx_nat, List.drop_zero, Nat.sub_zero]
  by_cases h : k ≤ xs.length
  · rw [Nat.min_eq_left h]
  · rw [Nat.min_eq_right (by omega), List.take_of_length_le (Nat.le_refl _), List.take_of_length_le (by omega)]
theorem cutL_from {α : Type} (xs : List α) (k : Nat) : cutL xs (some (k : Int)) none = xs.drop k := by
  unfold cutL
  rw [HT.sIx_none, HT.sIx_nat]
  by_cases h : k ≤ xs.length
  · rw [Nat.min_eq_left h, List.take_of_length_le (by rw [List.length_drop]; omega)]
  · rw [Nat.min_eq_right (by omega), List.drop_of_length_le (Nat.le_refl _), List.drop_of_length_le (by omega)]; simp
theorem cutL_mid {α : Type} (xs : List α) (a b : Nat) (h : b ≤ xs.length) (hab : a ≤ b) : cutL xs (some (a : Int)) (some (b : Int)) = (xs.drop a).take (b - a) := by
  unfold cutL
  simp only [HT.sIx_nat]
  rw [Nat.min_eq_left (show b ≤ xs.length from h), Nat.min_eq_left (show a ≤ xs.length by omega)]
theorem cutL_last {α : Type} (xs : List α) (a : Nat) (h : a < xs.length) : cutL xs (some (a : Int)) (some (-1)) = (xs.drop a).dropLast := by
  unfold cutL
  have h1 : HT.sIx xs.length xs.length (some (-1)) = xs.length - 1 := by
    show (if (-1 : Int) < 0 then ((-1 : Int) + (xs.length : Int)).toNat else min (-1 : Int).toNat xs.length) = _
    rw [if_pos (by decide)]; omega
  have h2 : HT.sIx xs.length 0 (some (a : Int)) = a := by rw [HT.sIx_nat]; omega
  have h3 : (xs.drop a).dropLast = (xs.drop a).take ((xs.drop a).length - 1) := List.dropLast_eq_take
  have h4 : (xs.drop a).length = xs.length - a := by simp
  rw [h1, h2, h3, h4]
  congr 1
  omega
theorem mulD_lst {k : Int} (hk : -1000 ≤ k ∧ k ≤ 1000 ∧ ds.length * k.toNat ≤ 1000000) : mulD (.lst ds) (.int k) M = .ok (.lst (List.replicate k.toNat ds).flatten) M := by
  unfold mulD
  rw [if_neg (by simp [isI2])]
  exact if_pos hk
theorem addD_tup (hl : ds.length + es.length ≤ 1000000) : addD (.tup ds) (.tup es) M = .ok (.tup (ds ++ es)) M := by
  unfold addD
  rw [if_neg (by simp [isI2]), if_neg (by simp [isS2]), if_pos (by simp [isT2])]
  exact if_pos hl
theorem addD_cell {n : Nat} (hm : M[n]? = some (.lst ds)) (hl : ds.length + es.length ≤ 1000000) : addD (.cell n) (.lst es) M = .ok (.lst (ds ++ es)) M := by
  unfold addD
  rw [if_neg (by simp [isI2]), if_neg (by simp [isS2]), if_neg (by simp [isT2])]
  unfold addL
  have : seqOf M (.cell n) = some ds := by simp [seqOf, hm]
  simp [lstOf, hm, hl]
@[simp] theorem isNF_ap : isNF d .non M = .ok (.bl (isN d)) M := rfl
@[simp] theorem notNF_ap : notNF d .non M = .ok (.bl (!isN d)) M := rfl
@[simp] theorem iaddD_int {i j : Int} : iaddD (.int i) (.int j) M = .ok (.int (i + j)) M := rfl
@[simp] theorem isiB_str : isiF [] tblB [.str x, .ty "str"] M = .ok (.bl true) M := rfl
@[simp] theorem isiB_tup : isiF [] tblB [.tup ds, .ty "str"] M = .ok (.bl false) M := rfl
theorem inD_strs {neg : Bool} {xs : List (List Nat)} (hx : okC x) (hs : ∀ z, z ∈ xs → okC z) : inD neg (.str x) (.lst (xs.map D.str)) M = .ok (.bl (decide (x ∈ xs) != neg)) M := by
  have h1 := pl_py (M := M) 7 29 (.str x) (by simpa using hx) (by omega)
  have h2 := pl_py (M := M) 7 29 (.lst (xs.map D.str)) (by rw [plN_lst]; exact plNs_map fun z hz => by rw [plN_str]; exact hs z hz) (by omega)
  unfold inD
  rw [if_neg (by simp [isS2])]
  unfold inP pyD
  rw [h1.1, h2.1]
  have e : toP (.lst (xs.map D.str)) = .list (xs.map fun z => PyData.str (tx z)) := by
    show PyData.list (toPs (xs.map D.str)) = _
    congr 1
    clear hs h2
    induction xs with
    | nil => rfl
    | cons z xs ih => simp [toPs, toP, ih]
  have s1 : SeqAt.shaped (toP (.str x)) = true := by unfold SeqAt.shaped; simp [h1.2.1]; have := h1.2.2; omega
  have s2 : SeqAt.shaped (toP (.lst (xs.map D.str))) = true := by unfold SeqAt.shaped; simp [h2.2.1]; have := h2.2.2; omega
  rw [e] at s2 ⊢
  simp only [s1, s2, and_self, if_true]
  have key : ((xs.map fun z => PyData.str (tx z)).any fun z => PyData.eqv z (toP (.str x))) = decide (x ∈ xs) := by
    rw [List.any_map, Bool.eq_iff_iff]
    simp only [List.any_eq_true, Function.comp_apply, decide_eq_true_eq]
    constructor
    · rintro ⟨z, hz, h⟩
      have h : (tx z == tx x) = true := h
      have := tx_inj.mp (beq_iff_eq.mp h)
      rw [← this]; exact hz
    · exact fun h => ⟨x, h, by show (tx x == tx x) = true; simp⟩
  rw [key]
theorem fstrE_ap {ms : List ME} : fstrE ms sd M = jGo ms [] sd M := rfl
def jK (ms : List ME) (acc : List Nat) (sd : SD) : D → MS → Res D := fun d M1 => match d with
    | .str y => if acc.length + y.length ≤ 1000000 then jGo ms (acc ++ y) sd M1 else .stuck
    | _ => .stuck
theorem jGo_nil {acc : List Nat} : jGo [] acc sd M = .ok (.str acc) M := rfl
theorem jGo_cons {ms : List ME} {acc : List Nat} : jGo (m :: ms) acc sd M = (m sd M).bind (jK ms acc sd) := rfl
theorem jK_str {ms : List ME} {acc : List Nat} (h : acc.length + y.length ≤ 1000000) : jK ms acc sd (.str y) M = jGo ms (acc ++ y) sd M := if_pos h
theorem fmtE_str {a : ME} {M1 : MS} (h : a sd M = .ok (.str y) M1) (hy : y.length ≤ 1000000) : fmtE a sd M = .ok (.str y) M1 := by
  unfold fmtE
  rw [h, Res.bind_ok]
  exact if_pos hy
theorem whileS_ap {n : Nat} {c : MB} {b : MST} : whileS n c b sd M = whileGo c b n sd M := rfl
theorem whileGo_f {n : Nat} {c : MB} {b : MST} {M1 : MS} (h : c sd M = .ok false M1) : whileGo c b (n + 1) sd M = .nx sd M1 := by
  unfold whileGo
  rw [h]; rfl
theorem whileGo_t {n : Nat} {c : MB} {b : MST} {M1 M2 : MS} {sd2 : SD} (h : c sd M = .ok true M1) (hb : b sd M1 = .nx sd2 M2) : whileGo c b (n + 1) sd M = whileGo c b n sd2 M2 := by
  conv => lhs; unfold whileGo
  rw [h]
  show (match b sd M1 with | .nx sd2 M2 => whileGo c b n sd2 M2 | .ct sd2 M2 => whileGo c b n sd2 M2 | .brk sd2 M2 => .nx sd2 M2 | .ret v M2 => .ret v M2 | .exc C ns ds sd2 M2 => .exc C ns ds sd2 M2 | .stuck => .stuck) = _
  rw [hb]
theorem ixD_neg {k j : Nat} (h : k + j = ds.length) (hk : 0 < k) (e : ds[j]? = some d) : ixD (.lst ds) (.int (-(k : Int))) M = .ok d M := by
  refine ixD_lst ?_
  unfold L2.atI ixN
  have h1 : ¬ (0 : Int) ≤ -(k : Int) := by omega
  rw [if_neg h1]
  have h2 : (-(k : Int) + (ds.length : Int)) = (j : Int) := by omega
  rw [h2]
  have h3 : k ≤ ds.length := by omega
  simp [h3, e]
end
end DL

/-! DL: xs += ys of lists. -/
namespace DL
open PySem PySem.Spec L2
open PyProof.Rows hiding St
def iaddL (d e : D) (M : MS) : Res D := match d, e with
  | .cell n, .lst ys => (match M[n]? with
    | some (.lst xs) => if xs.length + ys.length ≤ 1000000 then .ok (.cell n) (M.set n (.lst (xs ++ ys))) else .stuck
    | _ => .stuck)
  | _, _ => .stuck
def isCel (d _e : D) (_M : MS) : Bool := match d with
  | .cell _ => true
  | _ => false
def iaddX : D → D → MS → Res D := fun d e M => if isCel d e M = true then iaddL d e M else iaddD d e M
section
variable {X : Cx} {M : MS}
theorem iopS_addL : OpS X (inplaceOp .Add) iaddL := by
  refine ⟨_, iop_ext, fun ro H M d e x y E Q R rx ry P => ?_⟩
  cases d <;> cases e <;> try exact P.elim
  rename_i n ys
  have P : PostD X.K X.mg E ro H Q (match M[n]? with | some (.lst xs) => if xs.length + ys.length ≤ 1000000 then .ok (.cell n) (M.set n (.lst (xs ++ ys))) else .stuck | _ => .stuck) := P
  split at P
  · rename_i xs hm
    split at P
    · rename_i hl
      obtain ⟨a, ho, rfl, g, h, vs, rfl, q⟩ := R.cellAt rx hm
      obtain ⟨b, zs, rfl, hb, _, qz⟩ := id ry
      obtain ⟨R', P'⟩ := R.change (o := .lst (vs ++ zs)) (mo := .lst (xs ++ ys)) g ⟨_, rfl, q.append qz⟩
      exact ⟨a, b, vs, zs, rfl, rfl, h, hb, by rw [← q.len, ← qz.len]; exact line_le hl, P ro _ _ R' P' ⟨a, rfl, g⟩⟩
    · exact P.elim
  · exact P.elim
theorem iopS_addX : OpS X (inplaceOp .Add) iaddX := OpS.or iopS_addL iopS_add isCel
@[simp] theorem gtD_strs {x y : List Nat} : gtD (.str x) (.str y) M = .ok (.bl (decide (y < x))) M := rfl
@[simp] theorem iaddX_int {i j : Int} : iaddX (.int i) (.int j) M = .ok (.int (i + j)) M := rfl
theorem iaddX_cell {n : Nat} {xs ys : List D} (hm : M[n]? = some (.lst xs)) (hl : xs.length + ys.length ≤ 1000000) : iaddX (.cell n) (.lst ys) M = .ok (.cell n) (M.set n (.lst (xs ++ ys))) := by
  show (match M[n]? with | some (.lst xs) => if xs.length + ys.length ≤ 1000000 then Res.ok (D.cell n) (M.set n (.lst (xs ++ ys))) else .stuck | _ => .stuck) = _
  rw [hm]
  exact if_pos hl
end
open Classical in
theorem forGo_nilC {chk : MS → Prop} {g : MG} {b : MST} {sd : SD} {M : MS} (hc : chk M) : forGo chk g b [] sd M = .nx sd M := by unfold forGo; rw [if_pos hc]
open Classical in
theorem forGo_consC {chk : MS → Prop} {i : Nat} {b : MST} {sd : SD} {M : MS} {d : D} {ds : List D} (hc : chk M) : forGo chk (nameG i) b (d :: ds) sd M = (b (sd.set i (some d)) M).loop (forGo chk (nameG i) b ds) := by
  conv => lhs; unfold forGo
  rw [if_pos hc]
  simp
  unfold SRes.loop
  cases b (sd.set i (some d)) M <;> rfl
theorem nameE_ne {i j : Nat} {sd : SD} {M : MS} {v : Option D} (h : j ≠ i) : nameE j (sd.set i v) M = nameE j sd M := by
  unfold nameE
  rw [List.getElem?_set_ne (Ne.symm h)]
theorem nameE_dich (i : Nat) (sd : SD) : (∃ d, ∀ M, nameE i sd M = .ok d M) ∨ ∀ M, nameE i sd M = .stuck := by
  unfold nameE
  cases h : sd[i]? with
  | none => exact .inr fun M => by simp
  | some o =>
    cases o with
    | none => exact .inr fun M => by simp
    | some d => exact .inl ⟨d, fun M => by simp⟩
theorem set3 {i j : Nat} {sd : SD} {u v w : Option D} (h : j ≠ i) : ((sd.set i v).set j w).set i u = (sd.set j w).set i u := by
  rw [List.set_comm _ _ (Ne.symm h), List.set_set]
end DL

/-! DL: quiet defs (nothing is raised in them, no loop) called in an except suite. -/
namespace DL
open PySem PySem.Spec L2
open PyProof.Rows hiding St
/-- such a def's promise: p, the exception that is handled, stands -/
def DOkW (P : Program) (w : World) (K : PySem.W.Frag) (mg : Str → Option Value) (base : Heap) (k : Nat) (f : Addr) (fd : FuncData) (ps : List Str) (F : FM) : Prop :=
  ∀ (A : Around) (outer : List Env) (s : Shared) (H : Hp) (args : Args) (us : List Value) (vs : List V) (Q : VK) (E : XK) (p : Addr × Obj), L2H.RoomH k A → L2H.PinOk outer H s p → Env0 P w K mg base A outer s H →
    BindsTo s fd args (ps.zip us) → Vals vs us → spD K mg ps.length F vs H Q E → codeAny (model P w) A (.call (.ref f) args) (CR (L2.CX P w) outer P w H s Q E) s
abbrev cxW (P : Program) (w : World) (K : PySem.W.Frag) (mg : Str → Option Value) (base : Heap) (N : List Str) (qual : Str) (sc : Scope) (f : Addr) (cd : Value) (A : Around) (outer : List Env) (s : Shared) (H : Hp) (E : XK) (p : Addr × Obj) : Cx :=
  L2H.cxH (L2.CX P w) P w K mg base N qual sc f cd A outer s H E p
section
variable {P : Program} {w : World} {K : PySem.W.Frag} {mg : Str → Option Value} {base : Heap}
theorem funW_ok {x qual : Str} {st : Stmt} {f : Addr} {fd : FuncData} {N ps : List Str} {k : Nat} {body : MST} (Fn : FnP K x qual st [] [] f fd) (S : FnScope N ps (defScope st))
    (hbody : ∀ (cdv : Value) (A : Around) (outer : List Env) (s : Shared) (H : Hp) (E : XK) (p : Addr × Obj), L2H.RoomH k (A.deeper (envOfC qual (defScope st) s.heap.objs.size f cdv)) →
      DSs (cxW P w K mg base N qual (defScope st) f cdv A outer s H E p) (fun cls d _ H' => E cls d H') (defBody st) body) : DOkW P w K mg base (k + 1) f fd ps (runD N.length body) := by
  obtain ⟨⟨oc, od, dV, kV, doc, pm, an, cdv, ct, osl, rfl, look, code, _, _⟩, _⟩ := Fn
  intro A outer s H args us vs Q E p room pin e0 bd rv sp
  obtain ⟨hl, ro, ds, M, R, rs, Po⟩ := sp
  have up : ∀ b o, base.get? b = some o → s.heap.get? b = some o := fun b o z => (e0.bs b o z).1
  have inK : K.In s.heap := e0.mod.kin.keeps up
  have kinds : ∀ y ∈ ps.zip us, (defScope st).names.lookup y.1 = some .local ∨ ((defScope st).names.lookup y.1 = some .cell ∧ ((cellsFrom (s.heap.objs.size + 1) (defScope st).names []).lookup y.1).isSome = true) := by
    rintro ⟨n, v⟩ hy
    rcases S.par n (List.of_mem_zip hy).1 with z | z
    · exact .inl z
    · exact .inr ⟨z, PySem.W.cellsFrom_some _ _ _ (.inl z)⟩
  refine codeAny_call_function room.depth (inK _ _ look) rfl S.co S.gen rfl (PySem.W.codeRec_of inK code) (bd _ _ _ _ ?_)
  refine wpAny_newFunctionEnv_cells S.kind kinds fun env he s1 call => ?_
  subst he
  refine ⟨(e0.mod.nolimit.keeps up).keeps call.toInCall.keep, codeAny_func ?_⟩
  have I := L2H.inv_startH (CX := L2.CX P w) (E := E) S pin e0 hl rv call
  have B := hbody cdv A outer s H E p (room.deeper _)
  have start : liftS K mg (fun cls d _ H' => E cls d H') body { nx := fun _ H' => Q .non H', rt := Q } (L2.start N vs) H := by
    refine ⟨ro, startD N.length ds, M, R, repSt_start rs, ?_⟩
    unfold runD at Po
    cases e : body (startD N.length ds) M with
    | nx sd M' => rw [e] at Po; exact fun ro' H' st rs q r => Po ro' H' .non rs q rfl
    | ret d M' => rw [e] at Po; exact Po
    | exc C ns ds' sd M' => rw [e] at Po; exact fun ro' H' st cls dd rs q _ r => Po ro' H' cls dd rs q r
    | brk sd M' => rw [e] at Po; exact Po.elim
    | ct sd M' => rw [e] at Po; exact Po.elim
    | stuck => rw [e] at Po; exact Po
  refine wpAny_mono (B.ps.run [] s1 _ _ _ I start) (fun fl s' out => ?_) fun _ _ z => z
  cases fl with
  | ret u =>
    obtain ⟨v, σ, H1, J, rv', q⟩ := out
    exact ⟨v, H1, J.os, J.bare, J.base, J.hok, rv', q⟩
  | next =>
    obtain ⟨σ, H1, J, q⟩ := out
    exact ⟨.non, H1, J.os, J.bare, J.base, J.hok, rfl, q⟩
  | brk => obtain ⟨_, _, _, z⟩ := out; exact z.elim
  | cont => obtain ⟨_, _, _, z⟩ := out; exact z.elim
end
section
variable {X : Cx} {k : Nat} {f : Addr} {fd : FuncData} {ps : List Str} {F : FM} {x : Str} {q pos : Pos} {e : Expr} {es : List Expr} {ma : MA} {p : Addr × Obj}
theorem roomH_room {A : Around} (r : Room k A) : L2H.RoomH k A := ⟨r.dp, r.un⟩
/-- x(e, ..) in a suite -/
theorem de_callW (hF : DOkW X.prog X.w X.K X.mg X.base k f fd ps F) (hr : L2H.RoomH k X.A) (hp : p ∈ X.pn) (hg : Gl X x) (hm : X.mg x = some (.ref f)) (hk : PySem.W.keepIn X.K (.ref f) = true) (hb : Binds X.K fd ps []) (ha : DA X W0 (e :: es) ma)
    (hdb : (x == ("__debug__" : Str)) = false := by decide) (he : starEach (e :: es) X.env = (false, eval e X.env) :: starEach es X.env := by rfl) (hpl : (backTo pos (starEach es X.env)).any (·.1) = false := by rfl) :
    DE X W0 (.Call (.Name x q) (e :: es) [] pos) (callE ps.length F (· ++ []) ma) := by
  refine ⟨⟨fun pins s st H Q I h => ?_⟩⟩
  obtain ⟨ro, sd, M, R, S, Pq⟩ := h
  refine wpAny_Call_Name_kw (ld_glob I hg hm ?_ hdb)
  refine PySem.W.callWith_K (h₀ := X.base) I.ok.mod.kin hk (thn (ha.pa.run pos pins s st H _ I ⟨ro, sd, M, R, S, Post.bind Pq⟩) fun us s1 ⟨vs, H1, I1, r, ro1, M1, ds, R1, P1, r1, q1⟩ => ⟨I1.kIn, ?_⟩) he hpl
  dsimp only at q1
  split at q1
  · rename_i hl
    rw [List.append_nil] at hl q1
    have hul : us.length = ps.length := by rw [← r.length, ← r1.len]; exact hl
    have b := hb s1 us I1.kIn (by rw [List.append_nil]; exact hul)
    rw [List.append_nil] at b
    have P2 := I1.pin p (List.mem_append_left _ hp)
    have pin : L2H.PinOk X.stack H1 s1 p := ⟨P2.1, P2.2.1, fun z => (List.mem_cons.mp (I1.stkSub p.1 z)).elim P2.2.2.1 P2.2.2.2.1, P2.2.2.2.2⟩
    refine wpAny_call (codeAny_mono (hF X.A X.stack s1 H1 ⟨us, []⟩ us vs Q (fun c d H' => W0 c d st H') p hr pin I1.env0 b r ⟨by rw [← r1.len]; exact hl, ro1, ds, M1, R1, r1, q1⟩) fun r' s' hq => ?_)
    cases r' with
    | error z => exact (hq : L2.CX _ _ _ _ _ _ _ _).elim fun a ⟨_, _, _, _, _, _, _, _, _, _, _, z⟩ => z.elim
    | ok fl =>
      cases fl with
      | ret u => exact I1.after hq
      | next => exact hq.elim
      | brk => exact hq.elim
      | cont => exact hq.elim
  · exact q1.elim
end
theorem roomH_mark {k : Nat} {A : Around} {h : Option Value} (r : Room k A) : L2H.RoomH k (A.mark h) := ⟨r.dp, r.un⟩
/-! ### a suite's mirror does not depend on where the exception stands -/
section
variable {s s' : SD} {a a' b b' : ME} {ms ms' : MA} {f : D → D → MS → Res D} {g : D → MS → Res D} {h : List D → MS → Res D} {n : Nat} {F : FM} {q : List D → List D} {j : Nat}
theorem eqE_const {d : D} : ∀ M, constE d s M = constE d s' M := fun _ => rfl
theorem eqE_name {i j : Nat} {sd : SD} {u v : Option D} (hij : i ≠ j) : ∀ M, nameE i (sd.set j u) M = nameE i (sd.set j v) M := fun M => (nameE_ne hij).trans (nameE_ne hij).symm
theorem eqE_bin (ha : ∀ M, a s M = a' s' M) (hb : ∀ M, b s M = b' s' M) : ∀ M, binE f a b s M = binE f a' b' s' M := fun M => by
  rw [binE_ap, binE_ap, ha]
  congr 1
  funext d M1
  rw [binK_ap, binK_ap, hb]
theorem eqE_un (ha : ∀ M, a s M = a' s' M) : ∀ M, unE g a s M = unE g a' s' M := fun M => by rw [unE_ap, unE_ap, ha]
theorem eqE_and (ha : ∀ M, a s M = a' s' M) (hb : ∀ M, b s M = b' s' M) : ∀ M, andE a b s M = andE a' b' s' M := fun M => by
  rw [andE_ap, andE_ap, ha]
  congr 1
  funext d M1
  unfold andK
  split
  · exact hb M1
  · rfl
  · rfl
theorem eqE_or (ha : ∀ M, a s M = a' s' M) (hb : ∀ M, b s M = b' s' M) : ∀ M, orE a b s M = orE a' b' s' M := fun M => by
  rw [orE_ap, orE_ap, ha]
  congr 1
  funext d M1
  unfold orK
  split
  · rfl
  · exact hb M1
  · rfl
theorem eqE_not (ha : ∀ M, a s M = a' s' M) : ∀ M, notE a s M = notE a' s' M := fun M => by rw [notE_ap, notE_ap, ha]
theorem eqA_nil : ∀ M, nilA s M = nilA s' M := fun _ => rfl
theorem eqA_cons (ha : ∀ M, a s M = a' s' M) (hb : ∀ M, ms s M = ms' s' M) : ∀ M, consA a ms s M = consA a' ms' s' M := fun M => by
  rw [consA_ap, consA_ap, ha]
  congr 1
  funext d M1
  rw [consK_ap, consK_ap, hb]
theorem eqE_call (ha : ∀ M, ms s M = ms' s' M) : ∀ M, callE n F q ms s M = callE n F q ms' s' M := fun M => by rw [callE_ap, callE_ap, ha]
theorem eqE_app (ha : ∀ M, ms s M = ms' s' M) : ∀ M, appE h ms s M = appE h ms' s' M := fun M => by rw [appE_ap, appE_ap, ha]
theorem eqE_lst (ha : ∀ M, ms s M = ms' s' M) : ∀ M, lstE ms s M = lstE ms' s' M := fun M => by rw [lstE_ap, lstE_ap, ha]
theorem eqE_tup (ha : ∀ M, ms s M = ms' s' M) : ∀ M, tupE ms s M = tupE ms' s' M := fun M => by rw [tupE_ap, tupE_ap, ha]
theorem eqS_ret {M : MS} (ha : ∀ M, a s M = a' s' M) : finS j (retS a s M) = finS j (retS a' s' M) := by
  rw [retS_ap, retS_ap, ha]
  cases a' s' M <;> rfl
end
/-! ### tuples of texts: constants of the module; in -/
structure GTup (K : PySem.W.Frag) (mg : Str → Option Value) (x : Str) (ss : List String) : Prop where
  ex : ∃ a, mg x = some (.ref a) ∧ KT K a (ss.map fun s => V.str (Str.ofString s))
theorem gtup_mk {K : PySem.W.Frag} {mg : Str → Option Value} {x : Str} {ss : List String} {T : Addr} {od : Option Addr} {its : List Value} {n : Nat} {sl : Array (Option Value)} (hm : mg x = some (.ref T)) (hT : K.lookup T = some ⟨.type "tuple", od, .seq its.toArray n, sl⟩) (hl : its.length ≤ 1000)
    (hv : Vals (ss.map fun s => V.str (Str.ofString s)) its) : GTup K mg x ss :=
  ⟨T, hm, _, its.toArray, n, hT, rfl, rfl, by rw [List.size_toArray, sizeLine_eq]; omega, hv⟩
theorem reps_ss {K : PySem.W.Frag} {mg : Str → Option Value} {ro : Pl} {H : Hp} : ∀ ss : List String, Reps K mg ro H (ss.map fun s => D.str (sL s)) (ss.map fun s => V.str (Str.ofString s))
  | [] => rfl
  | s :: ss => ⟨_, _, rfl, by show V.str _ = V.str (tx (sL s)); rw [tx_sL], reps_ss ss⟩
def inT (neg : Bool) (d e : D) (M : MS) : Res D := match d, e with
  | .str x, .tup es => (match stsOf es with
    | some xs => .ok (.bl (decide (x ∈ xs) != neg)) M
    | none => .stuck)
  | _, _ => .stuck
section
variable {X : Cx} {W : WX} {M : MS}
theorem de_gtup {x : Str} {ss : List String} {ds : List D} {pos : Pos} (hm : GTup X.K X.mg x ss) (hg : Gl X x) (hds : ds = ss.map fun s => D.str (sL s)) (hd : (x == ("__debug__" : Str)) = false := by decide) : DE X W (.Name x pos) (constE (.tup ds)) := by
  obtain ⟨a, h1, h2⟩ := hm.ex
  subst hds
  exact de_constV (pe_glob (v := .ref a) hg h1 rfl hd) fun ro H => ⟨a, _, rfl, .inr h2, reps_ss ss⟩
theorem inV_tx (x : List Nat) (xs : List (List Nat)) : inV (V.str (tx x)) (xs.map fun z => V.str (tx z)) = decide (x ∈ xs) := by
  induction xs with
  | nil => rfl
  | cons z xs ih =>
    have e : inV (V.str (tx x)) ((z :: xs).map fun z => V.str (tx z)) = (eqV (V.str (tx z)) (V.str (tx x)) || inV (V.str (tx x)) (xs.map fun z => V.str (tx z))) := by
      simp [inV]
    rw [e, ih, eqV_tx]
    by_cases h : z = x
    · simp [h]
    · have h' : ¬ x = z := fun q => h q.symm
      simp [h, h']
theorem opS_inT (neg : Bool) : OpS X (compareOp (if neg then .NotIn else .In)) (inT neg) := by
  have key : ∀ (M : MS) (ro : Pl) (H : Hp) (d e : D) (x y : V) (E : XK) (Q : VK), RelS X.K X.mg ro M H → Rep X.K X.mg ro H d x → Rep X.K X.mg ro H e y → PostD X.K X.mg E ro H Q (inT neg d e M) → rIn X.K neg x y H Q := fun M ro H d e x y E Q R rx ry P => by
    unfold inT at P
    split at P
    · rename_i z es
      split at P
      · rename_i xs hx
        cases (show x = V.str (tx z) from rx)
        obtain ⟨a, vs, rfl, hq, q⟩ := id ry
        rw [stsOf_eq hx] at q
        have q := Reps.strs q
        subst q
        rw [List.map_map] at hq
        refine ⟨a, _, rfl, .inr hq.sq, rfl, ?_, ?_⟩
        · rw [List.all_eq_true]
          intro v hv
          obtain ⟨b, _, rfl⟩ := List.mem_map.mp hv
          rfl
        · have e := inV_tx z xs
          have e : inV (V.str (tx z)) (xs.map (V.str ∘ tx)) = decide (z ∈ xs) := e
          rw [e]
          cases neg
          · simpa using PostD.pure (d := .bl (decide (z ∈ xs) != false)) R rfl P
          · simpa using PostD.pure (d := .bl (decide (z ∈ xs) != true)) R rfl P
      · exact P.elim
    · exact P.elim
  cases neg with
  | false => exact ⟨_, op_in_seq, fun ro H M' d e x y E Q R rx ry P => key M' ro H d e x y E Q R rx ry P⟩
  | true => exact ⟨_, op_notIn_seq, fun ro H M' d e x y E Q R rx ry P => key M' ro H d e x y E Q R rx ry P⟩
theorem inT_strs {neg : Bool} {x : List Nat} {xs : List (List Nat)} : inT neg (.str x) (.tup (xs.map D.str)) M = .ok (.bl (decide (x ∈ xs) != neg)) M := by
  unfold inT
  simp
end
end DL

/-! DLy: keyword-only parameters. -/
namespace DL
open PySem PySem.Spec L2
open PyProof.Rows hiding St
section
variable {K : PySem.W.Frag}
theorem fnP_mkK {x qual : Str} {st : Stmt} {f D : Addr} {kws : List (Str × V)} {oc : Value} {od an : Option Addr} {osl : Array (Option Value)} {doc pm cdv ct : Value} (l : K.lookup f = some ⟨oc, od, .func (PySem.W.fnOf x qual (defArgs st) (defBody st) (defScope st) .none (.ref D) doc pm an cdv ct), osl⟩)
    (c : PySem.W.codeIn K cdv qual = true) (k : PySem.W.keepIn K (.ref f) = true) (hq : ∀ q, q ∈ kws → ∃ u, PySem.W.nsIn K D q.1 = some (some u) ∧ RelV q.2 u) : FnP K x qual st [] kws f (PySem.W.fnOf x qual (defArgs st) (defBody st) (defScope st) .none (.ref D) doc pm an cdv ct) := ⟨⟨oc, od, .none, .ref D, doc, pm, an, cdv, ct, osl, rfl, l, c, .inl ⟨rfl, rfl⟩, .inr ⟨D, rfl, hq⟩⟩, k⟩
theorem kwd_cons {D : Addr} {x : Str} {u : Value} {v : V} {kws : List (Str × V)} (h : PySem.W.nsIn K D x = some (some u)) (r : RelV v u) (hq : ∀ q, q ∈ kws → ∃ u, PySem.W.nsIn K D q.1 = some (some u) ∧ RelV q.2 u) : ∀ q, q ∈ (x, v) :: kws → ∃ u, PySem.W.nsIn K D q.1 = some (some u) ∧ RelV q.2 u := fun q hm => by
  rcases List.mem_cons.mp hm with e | hm
  · rw [e]; exact ⟨u, h, r⟩
  · exact hq q hm
end
end DL

/-! DLz: enumerate over tuples. -/
namespace DL
open PySem PySem.Spec L2
open PyProof.Rows hiding St
set_option maxHeartbeats 1000000 in
theorem meets_enumerate_newB1 {v : Value} {o : Obj} {H : Heap → Prop} (B : Begins v o H) :
    Meets (Builtin.«enumerate.__new__» ⟨[.type "enumerate", v], []⟩) (fun _ R s => H s.heap ∧
      R (.ok (.ret (.ref (s.heap.push o).objs.size))) { s with heap := (s.heap.push o).push { cls := .type "enumerate", data := .fields #[.none, .bool false, .ref s.heap.objs.size, rawInt 0, .none, .none] } }) :=
  .of_wp fun prog w A R s h => by
    obtain ⟨hp, g, d, tk, os⟩ := s; obtain ⟨h1, h⟩ := h
    have hsub := sub_enumerate
    have q1 : ∀ {A' : Around} {E : Value → Shared → Prop} {Q : Value → Shared → Prop}, Q (.ref hp.objs.size) ⟨hp.push o, g, d, tk, os⟩ → wpAny (model prog w) A' (pyIter v) Q E ⟨hp, g, d, tk, os⟩ :=
      fun q => B.iter prog w _ _ ⟨hp, g, d, tk, os⟩ _ h1 q
    wp_walk using q1
    refine wpAny_stack_any fun st => wpAny_pure ?_
    split
    · rename_i c _ _ _ _ _
      cases (c == Value.type "enumerate")
      · wp_walk using q1
        exact ⟨_, rfl, h⟩
      · wp_walk using q1
        exact ⟨_, rfl, h⟩
    · wp_walk using q1
      exact ⟨_, rfl, h⟩
section
variable {prog : Program} {w : World} {A : Around} {E : Value → Shared → Prop} {s : Shared}
theorem enum_begins1 {v : Value} {o : Obj} {H : Heap → Prop} {Q : Value → Shared → Prop} (B : Begins v o H) (h1 : H s.heap)
    (h : ∀ h', IsEnum h' (s.heap.objs.size + 1) s.heap.objs.size 0 .none → h'.get? s.heap.objs.size = some o → h'.objs.size = s.heap.objs.size + 2 →
      (∀ b o, s.heap.get? b = some o → h'.get? b = some o) → Q (.ref (s.heap.objs.size + 1)) { s with heap := h' }) :
    wpAny (model prog w) A (call (.type "enumerate") [v]) Q E s := by
  refine callType_new F.called_enumerate (by decide) (F.typeCall_enumerate_1 _) (F.newCall_enumerate_1 _) (fun obj => F.args_object_init_2 obj _) F.entry_enumerate_new
    (meets_enumerate_newB1 B) ⟨h1, ?_⟩
  have hz : (s.heap.push o).objs.size = s.heap.objs.size + 1 := Heap.size_push ..
  show _ ∧ _
  rw [hz]
  have he : IsEnum ((s.heap.push o).push { cls := .type "enumerate", data := .fields #[.none, .bool false, .ref s.heap.objs.size, rawInt 0, .none, .none] }) (s.heap.objs.size + 1) s.heap.objs.size 0 .none := by
    have := Heap.get?_push_size (s.heap.push o) (o := { cls := .type "enumerate", data := .fields #[.none, .bool false, .ref s.heap.objs.size, rawInt 0, .none, .none] }) rfl
    rw [hz] at this; exact this
  refine ⟨⟨_, he, rfl⟩, h _ he (Heap.get?_push_of_some _ (Heap.get?_push_size _ B.free)) (by rw [Heap.size_push, hz]) fun b o x => Heap.get?_push_of_some _ (Heap.get?_push_of_some _ x)⟩
end
/-- the tuple at a as it stands at each turn, each item in a new pair -/
def IteT (K : PySem.W.Frag) (a : Addr) : It :=
  ⟨fun i H => ∃ (xs : List V) (x : V), SqT K H a xs ∧ xs[i]? = some x, fun i H v H' => ∃ T x, v = .ref T ∧ H T = none ∧ H' = upd H T (.tup [.int (i : Nat), x]) ∧ ∀ xs, SqT K H a xs → xs[i]? = some x, fun i H => ∃ xs : List V, SqT K H a xs ∧ xs.length ≤ i⟩
theorem turn_enumT {P : Program} {w : World} {K : PySem.W.Frag} {elts : List Expr} {kk : Nat} {tpos : Pos} (a e it : Addr) :
    Turn P w K (.Tuple elts kk tpos) (IteT K a) [e, it] e (fun i h => (∃ old, IsEnum h e it ((i : Nat) : Int) old) ∧ h.IsTupleIter it a i ∧ e ≠ it ∧ e ≠ a ∧ a ≠ it) where
  mem := by simp
  obj := fun i h st b hb => by
    obtain ⟨⟨old, he⟩, ⟨o, ho, hc, hd⟩, _⟩ := st
    have e' : b = e ∨ b = it := by simpa using hb
    rcases e' with z | z
    · rw [z]; exact ⟨_, he, fun v q => nomatch q⟩
    · rw [z]; exact ⟨o, ho, fun v q => by rw [hd] at q; cases q⟩
  keep := fun i h h' st k => let ⟨⟨old, he⟩, hi, hne⟩ := st; ⟨⟨old, k e (by simp) _ he⟩, hi.at fun o q => k it (by simp) o q, hne⟩
  item := by
    intro X hP hw hK hc i pins s σ H E I hf st hg
    subst hP hw hK
    obtain ⟨⟨old, he⟩, hit, hne, hea, hai⟩ := st
    obtain ⟨xs, x, hq, hx⟩ := hg
    obtain ⟨its, rv, p, hz⟩ := I.tuple hq
    obtain ⟨u, hu, ru⟩ := rv.get hx
    have hel : e < s.heap.objs.size := Heap.lt_size he
    have hil : it < s.heap.objs.size := by obtain ⟨_, q, _⟩ := hit; exact Heap.lt_size q
    have hA : X.A.in1.handled = none := I.ok.hd hc
    have D := Draws.tuple (prog := X.prog) (w := X.w) hA it a hai its.toArray
    have hin : i < its.toArray.size := by
      have := (List.getElem?_eq_some_iff.mp hu).1
      simpa using this
    refine wpAny_pyNext_enum_itemC D he ⟨hit, p⟩ hin hne (by simp [hne, hea]) fun x' h' tk hP' ho st' hT hsz hk => ?_
    obtain ⟨hit', p'⟩ := st'
    have ex : x' = u := by
      have h1 : its.toArray[i]? = some x' := hP'
      rw [List.getElem?_toArray, hu] at h1
      exact (Option.some.inj h1).symm
    subst ex
    refine ⟨_, rfl, wpAny_letOwnedTupleGo_enum (s := { s with heap := h', toks := tk + 1 }) ho fun h'' he' sb => ?_⟩
    have hT2 : h''.get? s.heap.objs.size = some { cls := .type "tuple", data := .seq #[.int i tk, x'] } := (sb.2 _ (Nat.ne_of_gt hel)).trans hT
    have new : ObjOk X.prog X.w (upd H s.heap.objs.size (.tup [.int (i : Nat), x])) h'' s.heap.objs.size (.tup [.int (i : Nat), x]) :=
      ⟨by show 2 ≤ sizeLine; decide, [.int i tk, x'], .cons ⟨_, rfl⟩ (.cons ru .nil), ⟨_, hT2, rfl, _, rfl⟩⟩
    have I1 : Inv X pins σ (upd H s.heap.objs.size (.tup [.int (i : Nat), x])) { s with heap := h'', toks := tk + 1 } :=
      I.turnedNew (ch := [e, it]) (fun b ob hb q => (sb.2 b (fun z => hb (by simp [z]))).trans (hk b ob (fun z => hb (by simp [z])) (fun z => hb (by simp [z])) q)) hf (Nat.le_refl _) new
    refine ⟨.ref s.heap.objs.size, _, I1, rfl, ⟨_, x, rfl, I.hok.fresh (Nat.le_refl _), rfl, fun ys hy => by rw [I.tuple_inj hy hq]; exact hx⟩, ⟨⟨x', ?_⟩, hit'.at fun o q => (sb.2 it (Ne.symm hne)).trans q, hne, hea, hai⟩, fun b hb => ?_⟩
    · have e1 : ((i + 1 : Nat) : Int) = (i : Int) + 1 := by omega
      rw [e1]; exact he'
    · have hb' : b < s.heap.objs.size := by
        have e' : b = e ∨ b = it := by simpa using hb
        rcases e' with z | z
        · rw [z]; exact hel
        · rw [z]; exact hil
      rw [upd_ne (Nat.ne_of_lt hb')]
      exact (hf b hb).1
  done := by
    intro X hP hw hK hc i pins s σ H E I hf st hg
    subst hP hw hK
    obtain ⟨⟨old, he⟩, hit, hne, hea, hai⟩ := st
    obtain ⟨xs, hq, hx⟩ := hg
    obtain ⟨its, rv, p, hz⟩ := I.tuple hq
    obtain ⟨f0, f1, f2, f3, f4, f5⟩ := hf it (by simp)
    have hl := rv.length
    have hA : X.A.in1.handled = none := I.ok.hd hc
    have D : Draws X.prog X.w X.A.in1 it [it, a] 0 (fun _ _ => True) (fun _ h => h.IsTupleIter it a i ∧ h.IsTuple a its.toArray) :=
      { live := fun _ _ st => let ⟨o, ho, _⟩ := st.1; ⟨o, ho⟩
        frame := fun _ _ _ st hk => ⟨st.1.at fun o e => hk it (by simp) o e, st.2.at fun o e => hk a (by simp) o e⟩
        item := fun i s Q E hi _ _ => absurd hi (by omega)
        done := fun s Q E st hE => wpAny_nextOf_tuple_end hA st.1 st.2 (by simp; omega) hE }
    exact wpAny_pyNext_enum_endD D he ⟨hit, p⟩ fun h' eb => ⟨rfl, I.turned (t' := s.toks) (fun b o hb q => eb b o hb q) f0 f1 f3 f4 f5⟩
  self := fun A i s Q E st h => let ⟨⟨_, he⟩, _⟩ := st; wpAny_pyIter_enum he h
/-- over a list or a tuple -/
def iEnumX (K : PySem.W.Frag) (ta : TA) : TI := fun σ H R => ta σ H fun vs H1 => ∃ a xs, vs = [.ref a] ∧ ((SqL K H1 a xs ∧ R (Ite K a) H1) ∨ (SqT K H1 a xs ∧ R (IteT K a) H1))
theorem pi_enumX {X : Cx} {e : Expr} {ta : TA} {p pos tpos : Pos} {elts : List Expr} {kk : Nat} (hg : Gl X "enumerate") (hm : X.mg "enumerate" = none) (ha : PA X [e] ta) (hs : starEach [e] X.env = [(false, eval e X.env)] := by rfl) :
    PI X (.Tuple elts kk tpos) (.Call (.Name "enumerate" p) [e] [] pos) (iEnumX X.K ta) := by
  refine ⟨fun pins s σ H R I h => ?_⟩
  refine Call_ (ld_blt I hg hm boot_enumerate (PyProof.Rows.callWith_type1 (thn (ha.run pos pins s σ H _ I h) fun us s1 ⟨vs, H1, I1, r1, q1⟩ => ?_) hs rfl))
  obtain ⟨a, xs, ex, q1⟩ := q1
  subst ex
  cases r1 with
  | cons r rr =>
    cases rr
    cases r
    have fp : ∀ h' : Heap, (∀ b o, s1.heap.get? b = some o → h'.get? b = some o) → ∀ b ∈ [s1.heap.objs.size + 1, s1.heap.objs.size], s1.heap.objs.size ≤ b := fun h' _ b hb => by
      have e' : b = s1.heap.objs.size + 1 ∨ b = s1.heap.objs.size := by simpa using hb
      rcases e' with z | z
      · rw [z]; exact Nat.le_add_right _ _
      · rw [z]; exact Nat.le_refl _
    rcases q1 with ⟨hq, q⟩ | ⟨hq, q⟩
    · obtain ⟨its, rv, p', hz⟩ := I1.list hq
      refine call_enumerate_list p'.isList fun h' he hit hsz hk => wpAny_pyIter_enum he ?_
      have I2 : Inv X pins σ H1 { s1 with heap := h' } := I1.kept (t' := s1.toks) hk
      refine ⟨s1.heap.objs.size + 1, [s1.heap.objs.size + 1, s1.heap.objs.size], _, _, H1, rfl, I2, turn_enum a (s1.heap.objs.size + 1) s1.heap.objs.size, ⟨⟨.none, he⟩, hit, Nat.succ_ne_self _⟩, fun b hb => ?_, q⟩
      have hle := fp h' hk b hb
      exact I1.fpOk hle (I1.hok.fresh hle)
    · obtain ⟨its, rv, p', hz⟩ := I1.tuple hq
      have hal : a < s1.heap.objs.size := by obtain ⟨_, e, _⟩ := p'; exact Heap.lt_size e
      refine enum_begins1 (begins_tuple a its.toArray) p' fun h' he hit hsz hk => wpAny_pyIter_enum he ?_
      have I2 : Inv X pins σ H1 { s1 with heap := h' } := I1.kept (t' := s1.toks) hk
      refine ⟨s1.heap.objs.size + 1, [s1.heap.objs.size + 1, s1.heap.objs.size], _, _, H1, rfl, I2, turn_enumT a (s1.heap.objs.size + 1) s1.heap.objs.size, ⟨⟨.none, he⟩, ⟨_, hit, rfl, rfl⟩, Nat.succ_ne_self _, Nat.ne_of_gt (Nat.lt_succ_of_lt hal), Nat.ne_of_lt hal⟩, fun b hb => ?_, q⟩
      have hle := fp h' hk b hb
      exact I1.fpOk hle (I1.hok.fresh hle)
def enumX (m : ME) : MI := fun sd M => (m sd M).bind fun d M1 => match seqOf M1 d with
  | some ds => .ok ⟨enumD 0 ds, lchk M1 d⟩ M1
  | none => .stuck
section
variable {X : Cx}
theorem di_enumX {W : WX} {e : Expr} {m : ME} {p pos tpos : Pos} {elts : List Expr} {kk : Nat} (hg : Gl X "enumerate") (hm : X.mg "enumerate" = none) (h : DE X W e m) (hs : starEach [e] X.env = [(false, eval e X.env)] := by rfl) (hs2 : starEach [e] X.env = (false, eval e X.env) :: starEach [] X.env := by rfl) :
    DI X W (.Tuple elts kk tpos) (.Call (.Name "enumerate" p) [e] [] pos) (enumX m) := by
  refine ⟨⟨fun pins s st H Q I q => (pi_enumX hg hm (da_cons h da_nil hs2).pa hs).run pins s st H Q I ?_⟩⟩
  obtain ⟨ro, sd, M, R, S, P⟩ := q
  refine ⟨ro, sd, M, R, S, ?_⟩
  have P : Post _ X.K X.mg (fun c d H' => W c d st H') ro H Q ((m sd M).bind _) := P
  unfold consA
  cases em : m sd M with
  | stuck => rw [em] at P; exact P.elim
  | exc C ns ds M1 => rw [em] at P; exact P
  | ok d M1 =>
    rw [em, Res.bind_ok] at P
    rintro ro1 H1 xs R1 P1 rs
    obtain ⟨x, rfl, rx⟩ := reps1 rs
    split at P
    · rename_i ds hs'
      cases ht : isTup d with
      | false =>
        obtain ⟨a, vs, rfl, hq, q'⟩ := seq_list R1 rx hs' ht
        refine ⟨a, vs, rfl, .inl ⟨hq, P ro1 H1 _ R1 P1 fun ro' H' M' R' P' hM => ?_⟩⟩
        have hM : seqOf M' d = some ds := by rw [← hs']; exact hM
        obtain ⟨a', vs', e', hq', rs'⟩ := seq_list R' (Rep.monoW P' _ _ rx) hM ht
        cases e'
        refine ⟨⟨vs', hq', by rw [enumD_len, rs'.len]; exact Nat.le_refl _⟩, fun i z hz => ?_⟩
        obtain ⟨y, hy, rfl⟩ := enumD_get ds 0 i z hz
        obtain ⟨v, hv, rv⟩ := rs'.get hy
        refine ⟨⟨vs', v, hq', hv⟩, fun w H'' ⟨T, y', ew, hT, eH, hall⟩ => ?_⟩
        subst ew eH
        have ey := hall vs' hq'
        rw [hv] at ey
        cases ey
        obtain ⟨R2, P2⟩ := R'.alloc (o := .tup [.int (i : Nat), v]) hT
        refine ⟨fun b o h => upd_grow hT b o h, ⟨T, [.int (i : Nat), v], rfl, .inl ⟨.inl upd_same, R'.fresh hT⟩, ?_⟩⟩
        exact ⟨_, _, rfl, by rw [Nat.zero_add]; rfl, Reps.one (Rep.mono P2 _ _ rv)⟩
      | true =>
        obtain ⟨es, rfl⟩ : ∃ es, d = .tup es := by cases d <;> first | exact ⟨_, rfl⟩ | cases ht
        cases hs'
        obtain ⟨a, vs, rfl, hq, q'⟩ := rx
        refine ⟨a, vs, rfl, .inr ⟨hq.sq, P ro1 H1 _ R1 P1 fun ro' H' M' R' P' hM => ?_⟩⟩
        have rx' : Rep X.K X.mg ro' H' (.tup ds) (.ref a) := Rep.monoW P' _ _ ⟨a, vs, rfl, hq, q'⟩
        obtain ⟨a', vs', e', hq', rs'⟩ := rx'
        cases e'
        refine ⟨⟨vs', hq'.sq, by rw [enumD_len, rs'.len]; exact Nat.le_refl _⟩, fun i z hz => ?_⟩
        obtain ⟨y, hy, rfl⟩ := enumD_get ds 0 i z hz
        obtain ⟨v, hv, rv⟩ := rs'.get hy
        refine ⟨⟨vs', v, hq'.sq, hv⟩, fun w H'' ⟨T, y', ew, hT, eH, hall⟩ => ?_⟩
        subst ew eH
        have ey := hall vs' hq'.sq
        rw [hv] at ey
        cases ey
        obtain ⟨R2, P2⟩ := R'.alloc (o := .tup [.int (i : Nat), v]) hT
        refine ⟨fun b o h => upd_grow hT b o h, ⟨T, [.int (i : Nat), v], rfl, .inl ⟨.inl upd_same, R'.fresh hT⟩, ?_⟩⟩
        exact ⟨_, _, rfl, by rw [Nat.zero_add]; rfl, Reps.one (Rep.mono P2 _ _ rv)⟩
    · exact P.elim
end
end DL

/-! DMa: list + list as a changeable place. -/
namespace DL
open PySem PySem.Spec L2
open PyProof.Rows hiding St
def addC (d e : D) (M : MS) : Res D := match lstOf M d, lstOf M e with
  | some xs, some ys => if xs.length + ys.length ≤ 1000000 then .ok (.cell M.length) (M ++ [.lst (xs ++ ys)]) else .stuck
  | _, _ => .stuck
section
variable {X : Cx}
theorem opS_addC : OpS X (binaryOp .Add) addC := by
  refine ⟨_, op_cat, fun ro H M d e x y E Q R rx ry P => ?_⟩
  unfold addC at P
  split at P
  · rename_i xs ys h1 h2
    obtain ⟨a, vs, rfl, ha, qa⟩ := lst_of R rx h1
    obtain ⟨b, ws, rfl, hb, qb⟩ := lst_of R ry h2
    split at P
    · rename_i hl
      exact ⟨a, b, vs, ws, rfl, rfl, ha, hb, by rw [← qa.len, ← qb.len]; exact line_le hl, PostD.newC R (qa.append qb) P⟩
    · exact P.elim
  · exact P.elim
end
theorem addC_cell {n : Nat} {ds es : List D} {M : MS} (hm : M[n]? = some (.lst ds)) (h : ds.length + es.length ≤ 1000000) : addC (.cell n) (.lst es) M = .ok (.cell M.length) (M ++ [.lst (ds ++ es)]) := by
  unfold addC
  simp [lstOf, hm, h]
theorem addC_lst {ds es : List D} {M : MS} (h : ds.length + es.length ≤ 1000000) : addC (.lst ds) (.lst es) M = .ok (.cell M.length) (M ++ [.lst (ds ++ es)]) := by
  unfold addC
  simp [lstOf, h]
end DL

/-! DL: sets of texts: made of a list, counted, compared, sorted. -/
namespace DL
open PySem PySem.Spec L2
open PyProof.Rows hiding St

/-! ### a set by what its rows keep -/
abbrev Rw := Int × Value
/-- the set at a: its rows keep Phi -/
def SetG (w : World) (h : Heap) (a : Addr) (Phi : List Rw → Prop) : Prop :=
  ∃ (o : Obj) (rs : Array Rw) (n : Nat) (t : SetTable), h.get? a = some o ∧ o.ExactSet ∧ o.data = .set rs n t ∧ Phi rs.toList ∧ rs.size < scanBound ∧ t.fits rs.size = true ∧ Ris t.place.toList ∧ (w.params.followText "set-order" = true ∨ t.led = true)
theorem SetG.keep {w : World} {h h' : Heap} {a : Addr} {Phi : List Rw → Prop} (G : SetG w h a Phi) (k : ∀ o, h.get? a = some o → h'.get? a = some o) : SetG w h' a Phi :=
  let ⟨o, rs, n, t, z, r⟩ := G
  ⟨o, rs, n, t, k o z, r⟩
theorem SetG.imp {w : World} {h : Heap} {a : Addr} {Phi Psi : List Rw → Prop} (G : SetG w h a Phi) (k : ∀ l, Phi l → Psi l) : SetG w h a Psi :=
  let ⟨o, rs, n, t, z1, z2, z3, z4, r⟩ := G
  ⟨o, rs, n, t, z1, z2, z3, k _ z4, r⟩

section
variable {P : Program} {w : World} {A : Around} {E : Value → Shared → Prop} {s : Shared} {a : Addr}
theorem addG_tail {Phi : List Rw → Prop} (inv : ∀ l l' : List Rw, l'.Perm l → Phi l → Phi l') {g : Bool → Sem Unit} (quiet : ∀ (b : Bool) (z : Shared) (Z : Unit → Shared → Prop), Z () z → wpAny (model P w) A (g b) Z E z)
    {o : Obj} {rs : Array Rw} {n : Nat} {t : SetTable} (gO : s.heap.get? a = some o) (gX : o.ExactSet) (gD : o.data = .set rs n t) {rs1 : Array Rw} {t1 : SetTable} (g1 : Phi rs1.toList) (gB : rs1.size < scanBound) (gF : t1.fits rs1.size = true) (gR : Ris t1.place.toList)
    (gL : w.params.followText "set-order" = true ∨ t1.led = true) {wd : Bool} {R : Option Bool → Shared → Prop} (fin : ∀ h', Heap.SameBut a s.heap h' → SetG w h' a Phi → R (some true) { s with heap := h' }) :
    wpAny (model P w) A (do storeSet a rs1 t1; if (!wd && t1.tooFull) = true then (do g (relayAll t1 rs1 (SetTable.grown rs1.size)).2.2; storeSet a (relayAll t1 rs1 (SetTable.grown rs1.size)).1 (relayAll t1 rs1 (SetTable.grown rs1.size)).2.1; pure (some true)) else pure (some true)) R E s := by
  have s1 := store_at (es' := rs1) (t' := t1) gO gD
  have b1 := Heap.SameBut.update s.heap a (Obj.putSet rs1 t1)
  refine wpAny_bind (wpAny_storeSet_of gO gD ?_ (fits_of_scanBound gB))
  split
  · have q1 := relayAll_perm t1 rs1 (SetTable.grown rs1.size)
    have q2 := relayAll_fits t1 rs1 (SetTable.grown rs1.size)
    have q3 := relayAll_ris t1 rs1 (SetTable.grown rs1.size)
    have q4 := relayAll_led t1 rs1 (SetTable.grown rs1.size)
    generalize relayAll t1 rs1 (SetTable.grown rs1.size) = Y at q1 q2 q3 q4 ⊢
    obtain ⟨rs2, t2, gv⟩ := Y
    dsimp only at q1 q2 q3 q4 ⊢
    have z : rs2.size = rs1.size := by simpa using q1.length_eq
    have zb : rs2.size < scanBound := z ▸ gB
    refine wpAny_bind (quiet _ _ _ (wpAny_bind (wpAny_storeSet_of s1 rfl (wpAny_pure (fin _ (b1.trans (Heap.SameBut.update _ a _)) ?_)) (fits_of_scanBound zb))))
    exact ⟨_, rs2, _, t2, store_at (es' := rs2) (t' := t2) s1 rfl, gX, rfl, inv _ _ q1 g1, zb, q2, q3, gL.imp id fun y => q4.trans y⟩
  · exact wpAny_pure (fin _ b1 ⟨_, rs1, _, t1, s1, gX, rfl, g1, gB, gF, gR, gL⟩)

/-! ### rows that are texts -/
def cpsOf (e : Rw) : List Nat := match e.2 with
  | .str y _ => y.cps.toList
  | _ => []
def TxtE (P : Program) (w : World) (e : Rw) : Prop := ∃ x tk, e.2 = Value.str (tx x) tk ∧ e.1 = (strKind P w).hash (tx x)
def TxtL (P : Program) (w : World) (xs : List (List Nat)) (l : List Rw) : Prop := (∀ e, e ∈ l → TxtE P w e) ∧ (l.map cpsOf).Perm xs ∧ xs.Nodup
abbrev SetS (P : Program) (w : World) (h : Heap) (a : Addr) (xs : List (List Nat)) : Prop := SetG w h a (TxtL P w xs)
theorem txtL_perm {xs : List (List Nat)} (l l' : List Rw) (p : l'.Perm l) (h : TxtL P w xs l) : TxtL P w xs l' := ⟨fun e he => h.1 e (p.mem_iff.mp he), (p.map cpsOf).trans h.2.1, h.2.2⟩
theorem cpsOf_tx {e : Rw} {x : List Nat} {tk : Tok} (h : e.2 = Value.str (tx x) tk) : cpsOf e = x := by unfold cpsOf; rw [h]
theorem txtE_is {e : Rw} (h : TxtE P w e) (x : List Nat) : (strKind P w).is (tx x) e.2 = true ↔ cpsOf e = x := by
  obtain ⟨y, tk, e1, _⟩ := h
  rw [cpsOf_tx e1, e1]
  constructor
  · intro q
    obtain ⟨u, hu⟩ := Value.isStrOf_shape (show Value.isStrOf (tx x) (Value.str (tx y) tk) = true from q)
    injection hu with q1 q2
    exact tx_inj.mp q1
  · rintro rfl
    exact strKind_is P w _ _
theorem txt_elems {l : List Rw} (h : ∀ e, e ∈ l → TxtE P w e) : ElemsOf (strKind P w) l := fun e he => by
  obtain ⟨x, tk, e1, e2⟩ := h e he
  exact ⟨⟨tx x, by rw [e1]; exact strKind_is P w _ _, e2⟩, by rw [e1]; rfl⟩
def insT (xs : List (List Nat)) (x : List Nat) : List (List Nat) := if x ∈ xs then xs else xs ++ [x]
theorem setS_addH {xs : List (List Nat)} {x : List Nat} {tk : Tok} {Q : Bool → Shared → Prop} (G : SetS P w s.heap a xs) (room : xs.length + 1 < scanBound)
    (q : ∀ h', Heap.SameBut a s.heap h' → SetS P w h' a (insT xs x) → ∀ b, Q b { s with heap := h' }) : wpAny (model P w) A (setAddHashed a (.str (tx x) tk) ((strKind P w).hash (tx x))) Q E s := by
  obtain ⟨o, rs, n, t, gO, gX, gD, ⟨gE, gP, gN⟩, gB, gF, gR, gL⟩ := G
  have isx : (strKind P w).is (tx x) (.str (tx x) tk) = true := strKind_is P w _ tk
  have scn : (Value.str (tx x) tk).scannable = true := rfl
  have els := txt_elems gE
  unfold setAddHashed setAddHashedIn
  refine wpAny_holding (wpAny_bind (wpAny_setState_of gO gD gF ?_))
  dsimp only
  rw [byScan_of scn gB els]
  simp only [↓reduceIte]
  unfold setAddByScan
  refine wpAny_bind (wpAny_bind (wpAny_rule (wpAny_bind (wpAny_setScan_of isx gO gD gF els ?_))))
  cases fi : List.findIdx? (fun e => (strKind P w).is (tx x) e.2) rs.toList with
  | some j =>
    obtain ⟨hj, pj, _⟩ := List.findIdx?_eq_some_iff_getElem.mp fi
    have hm : x ∈ xs := gP.mem_iff.mp (List.mem_map.mpr ⟨_, List.getElem_mem hj, (txtE_is (gE _ (List.getElem_mem hj)) x).mp pj⟩)
    have q' := q s.heap (Heap.SameBut.refl a s.heap) (by unfold insT; rw [if_pos hm]; exact ⟨o, rs, n, t, gO, gX, gD, ⟨gE, gP, gN⟩, gB, gF, gR, gL⟩) false
    dsimp only
    exact wpAny_pure (wpAny_pure q')
  | none =>
    have hm : ¬ x ∈ xs := fun z => by
      obtain ⟨e, he, ee⟩ := List.mem_map.mp (gP.mem_iff.mpr z)
      have := List.findIdx?_eq_none_iff.mp fi e he
      rw [(txtE_is (gE e he) x).mpr ee] at this
      cases this
    dsimp only
    have giv : ∀ (b : Bool) {z : Shared} {Z : Unit → Shared → Prop}, Z () z → wpAny (model P w) A (match b with | true => rule "set.scan.the-table-gave-way" | false => pure ()) Z E z := fun b z Z h => by
      cases b
      · exact wpAny_pure h
      · exact wpAny_rule h
    have q1 := layNew_perm t rs ((strKind P w).hash (tx x)) (.str (tx x) tk)
    have q2 := layNew_fits t rs ((strKind P w).hash (tx x)) (.str (tx x) tk)
    have q3 := layNew_ris t rs ((strKind P w).hash (tx x)) (.str (tx x) tk) gR
    have q4 := layNew_led t rs ((strKind P w).hash (tx x)) (.str (tx x) tk)
    generalize layNew t rs ((strKind P w).hash (tx x)) (.str (tx x) tk) = Y at q1 q2 q3 q4 ⊢
    obtain ⟨rs1, t1, wd, gv⟩ := Y
    dsimp only at q1 q2 q3 q4 ⊢
    rw [Array.toList_push] at q1
    have g1 : TxtL P w (insT xs x) rs1.toList := by
      refine ⟨fun e he => ?_, ?_, ?_⟩
      · rcases List.mem_append.mp (q1.mem_iff.mp he) with z | z
        · exact gE e z
        · rw [List.mem_singleton.mp z]; exact ⟨x, tk, rfl, rfl⟩
      · unfold insT
        rw [if_neg hm]
        have := q1.map cpsOf
        rw [List.map_append] at this
        exact this.trans (gP.append (by rw [List.map_singleton, cpsOf_tx (x := x) (tk := tk) rfl]))
      · unfold insT
        rw [if_neg hm, List.nodup_append]
        refine ⟨gN, by simp, fun y hy z hz => ?_⟩
        rw [List.mem_singleton.mp hz]
        exact fun e => hm (e ▸ hy)
    have zb : rs1.size < scanBound := by
      have e1 := q1.length_eq
      have e2 := gP.length_eq
      simp only [List.length_append, List.length_map, List.length_singleton, Array.length_toList] at e1 e2
      omega
    have hL : w.params.followText "set-order" = true ∨ t1.led = true := gL.imp id fun y => q4.trans y
    refine wpAny_bind (giv _ ?_)
    split
    · refine wpAny_bind ?_
      rw [hashByValue_scannable 8 scn]
      refine wpAny_pure (addG_tail txtL_perm ?_ gO gX gD g1 zb ?_ ?_ ?_ fun h' sb r => ?_)
      · intro b z Z h
        cases b
        · exact wpAny_pure h
        · exact wpAny_rule h
      · first | exact SetTable.fits_plain_off q2 | (split <;> first | exact q2 | exact SetTable.fits_plain_off q2)
      · first | exact q3 | (split <;> exact q3)
      · first | exact hL | (split <;> exact hL)
      · dsimp only; exact wpAny_pure (q h' sb r _)
    · refine wpAny_bind (wpAny_pure ?_)
      simp only [↓reduceIte]
      refine addG_tail txtL_perm ?_ gO gX gD g1 zb q2 q3 hL fun h' sb r => ?_
      · intro b z Z h
        cases b
        · exact wpAny_pure h
        · exact wpAny_rule h
      · dsimp only; exact wpAny_pure (q h' sb r _)

/-! ### set(xs) -/
def dedT (xs : List (List Nat)) : List (List Nat) := xs.foldl insT []
theorem insT_len (ys : List (List Nat)) (x : List Nat) : (insT ys x).length ≤ ys.length + 1 := by unfold insT; split <;> simp
theorem foldl_insT_len (xs : List (List Nat)) : ∀ ys, (xs.foldl insT ys).length ≤ ys.length + xs.length := by
  induction xs with
  | nil => intro ys; simp
  | cons x xs ih =>
    intro ys
    have h1 := ih (insT ys x)
    have h2 := insT_len ys x
    simp only [List.foldl_cons, List.length_cons]
    omega
theorem dedT_len (xs : List (List Nat)) : (dedT xs).length ≤ xs.length := by unfold dedT; simpa using foldl_insT_len xs []
theorem dedT_take {xs : List (List Nat)} {i : Nat} {x : List Nat} (h : xs[i]? = some x) : dedT (xs.take (i + 1)) = insT (dedT (xs.take i)) x := by
  unfold dedT
  rw [List.take_add_one, h, Option.toList_some, List.foldl_append]
  rfl
theorem upd_texts {I : Addr} {fp wr : List Addr} {G : Array GenState → Array GenState → Prop} {n : Nat} {Pv : Nat → Value → Prop} {St : Nat → Shared → Prop} {R : Result → Shared → Prop}
    (Wk : WalksS P w A.in1 I fp wr G n Pv St) (S : Addr) (out : S ∉ fp) (xs : List (List Nat)) (len : xs.length = n) (few : n + 1 < scanBound) (val : ∀ i v, Pv i v → ∃ x tk, xs[i]? = some x ∧ v = .str (tx x) tk) :
    ∀ (k i : Nat) (s : Shared), n - i = k → i ≤ n → St i s → SetS P w s.heap S (dedT (xs.take i)) → (∀ s', Moved (S :: wr) G s s' → SetS P w s'.heap S (dedT xs) → R (.ok (.ret .none)) s') →
      codeAny (model P w) A (.builtin "set.update.loop" ⟨[.ref S, .ref I], []⟩) R s := by
  have nS : S ∉ wr := fun h => out (Wk.sub _ h)
  have incl : ∀ b, b ∈ wr → b ∈ S :: wr := fun b hb => List.mem_cons_of_mem _ hb
  intro k
  induction k with
  | zero =>
    intro i s hk hi hst gS hR
    obtain rfl : i = n := by omega
    refine codeAny_builtin PyProof.Rows.F.entry_set_update_loop ?_
    rw [Around.under_plainId PyProof.Rows.F.plain_set_update_loop]
    show wpAny _ A.in1 (pyNext (.ref I) >>= fun v => _) _ _ s
    refine wpAny_bind (Wk.done s _ _ hst fun s' mv => ?_)
    show wpAny _ A.in1 (ret Value.none) _ _ s'
    refine wpAny_pure (hR s' (mv.mono incl) ?_)
    rw [← len, List.take_length] at gS
    exact gS.keep fun o e => mv.heap S _ nS e
  | succ k ih =>
    intro i s hk hi hst gS hR
    have hl : i < n := by omega
    refine codeAny_builtin PyProof.Rows.F.entry_set_update_loop ?_
    rw [Around.under_plainId PyProof.Rows.F.plain_set_update_loop]
    show wpAny _ A.in1 (pyNext (.ref I) >>= fun v => _) _ _ s
    refine wpAny_bind (Wk.item i s _ _ hl hst fun v s' hP hst' mv => ?_)
    obtain ⟨x, tk, hx, rfl⟩ := val i v hP
    have gS' : SetS P w s'.heap S (dedT (xs.take i)) := gS.keep fun o e => mv.heap S _ nS e
    show wpAny _ A.in1 (holding [Value.str (tx x) tk] (setAdd S (.str (tx x) tk)) >>= fun u => _) _ _ s'
    refine wpAny_bind (wpAny_holding ?_)
    unfold setAdd
    refine wpAny_holding (wpAny_bind ((strKind P w).pyHash (k := tx x) (strKind_is P w _ _) ?_))
    refine setS_addH (s := { s' with toks := s'.toks + 1 }) gS' (by have := dedT_len (xs.take i); simp only [List.length_take] at this; omega) fun h' sb g' b => ?_
    rw [← dedT_take hx] at g'
    refine wpAny_pure ⟨plainId_quiet PyProof.Rows.F.plain_set_update_loop _, ih (i + 1) _ (by omega) hl (Wk.frame _ s' _ _ hst' (Nat.le_succ _) fun b hb o e => (sb.2 b fun z : b = S => out (z ▸ hb)).trans e) g' fun s2 mv2 g2 => ?_⟩
    refine hR s2 (Moved.trans Wk.gtrans ((mv.mono incl).then_heap (Nat.le_succ _) fun b o hb e => ?_) mv2) g2
    exact (sb.2 b fun z : b = S => hb (z ▸ List.mem_cons_self)).trans e
end
theorem strs_atY : ∀ {us : List Value} {ys : List Str}, StrsAre us ys → ∀ (i : Nat) (v : Value), us[i]? = some v → ∃ y tk, ys[i]? = some y ∧ v = .str y tk
  | _, _, .nil, i, v, h => by simp at h
  | _, _, .cons y t r, 0, v, h => by
    simp at h
    exact ⟨y, t, rfl, h.symm⟩
  | _, _, .cons y t r, i + 1, v, h => by
    simp at h
    simpa using strs_atY r i v h
theorem strs_atT {us : List Value} {xs : List (List Nat)} (h : StrsAre us (xs.map tx)) (i : Nat) (v : Value) (e : us[i]? = some v) : ∃ x tk, xs[i]? = some x ∧ v = .str (tx x) tk := by
  obtain ⟨y, tk, e1, e2⟩ := strs_atY h i v e
  rw [List.getElem?_map] at e1
  cases hx : xs[i]? with
  | none => rw [hx] at e1; cases e1
  | some x =>
    rw [hx] at e1
    cases e1
    exact ⟨x, tk, rfl, e2⟩
section
variable {P : Program} {w : World} {A : Around} {E : Value → Shared → Prop} {s : Shared} {a : Addr}
/-- the new set's object -/
abbrev nSet (w : World) : Obj := { cls := .type "set", dict := none, data := .set #[] 0 (.fresh 0 0 (!w.params.followText "set-order")) }
theorem setS_new {h : Heap} (g : h.get? a = some (nSet w)) : SetS P w h a [] :=
  ⟨_, #[], 0, _, g, ⟨rfl, rfl, rfl⟩, rfl, ⟨fun e he => by simp at he, by simp, List.nodup_nil⟩, by decide, by rfl, List.Pairwise.nil, by
    show _ ∨ (!w.params.followText "set-order") = true
    cases w.params.followText "set-order" <;> simp⟩
set_option maxRecDepth 100000 in
set_option maxHeartbeats 3200000 in
theorem call_setL {l : Addr} {its : Array Value} {xs : List (List Nat)} {Q : Value → Shared → Prop} (calm : A.handled = none) (gL : s.heap.IsList l its) (gI : StrsAre its.toList (xs.map tx)) (few : its.size + 1 < scanBound)
    (q : ∀ (h' : Heap) (tk : Nat), SetS P w h' s.heap.objs.size (dedT xs) → (∀ b o, s.heap.get? b = some o → h'.get? b = some o) → Q (.ref s.heap.objs.size) { s with heap := h', toks := tk }) :
    wpAny (model P w) A (call (.type "set") [.ref l]) Q E s := by
  have sz : xs.length = its.size := by rw [← Array.length_toList, StrsAre.len_eq gI, List.length_map]
  obtain ⟨c, tl, fM⟩ := PySem.F.called_set.mro
  have fN := PySem.F.called_set.made
  have fS := PySem.F.called_set.sub
  refine wpAny_call (codeAny_of_tree (?_ : wpAny _ _ (callAny (.type "set") _) _ _ _))
  refine wpAny_pure ⟨Code.quiet_builtin _ (by decide +kernel), (codeAny_builtin PySem.F.entry_type_call ?_)⟩
  rw [Around.under_plain (weight_type_call_type "set" [.ref l] []) (by rfl)]
  have fT := PySem.F.called_set.notType
  have fC := PySem.F.called_set.canCreate
  have fA := PySem.F.typeCall_set_1 (.ref l)
  repeat any_goals (first | assumption | wp_step)
  refine codeAny_mono (code_set_led1 (.ref l) (E := E) (Q₁ := fun ob s1 => ob = .ref s.heap.objs.size ∧ s1 = { s with heap := s.heap.push (nSet w) }) ⟨rfl, rfl⟩) fun r s1 hr => ?_
  cases r with
  | error e => exact hr
  | ok fl =>
    cases fl with
    | ret ob =>
      obtain ⟨rfl, rfl⟩ := hr
      have gN : (s.heap.push (nSet w)).get? s.heap.objs.size = some (nSet w) := Heap.get?_push_size _ rfl
      have gT : Shared.TypeIs { s with heap := s.heap.push (nSet w) } (.ref s.heap.objs.size) "set" := ⟨_, gN, rfl⟩
      have fi := PySem.F.called_set.init.lookup
      have fb := PySem.F.called_set.init.bind (.ref s.heap.objs.size)
      repeat any_goals (first | assumption | wp_step)
      refine codeAny_mono (codeAny_call_builtin (R := wants (fun r s2 => r = .none ∧ ∃ h' tk, s2 = { s with heap := h', toks := tk } ∧ SetS P w h' s.heap.objs.size (dedT xs) ∧ (∀ b o, s.heap.get? b = some o → h'.get? b = some o)) E) PySem.F.called_set.init.plain PySem.F.entry_set_init (check_set_init_1 gT ?_)) fun r2 s2 hr2 => ?_
      · obtain ⟨⟨oc, od, oD, osl⟩, gO, (rfl : oc = _), nl, (rfl : oD = _)⟩ := gL
        have gO' : (s.heap.push (nSet w)).get? l = some { cls := .type "list", dict := od, data := .seq its nl, slots := osl } := Heap.get?_push_of_some _ gO
        have k1 := PySem.F.sub_list_set
        have k2 := PySem.F.sub_list_frozenset
        have k3 : (Value.type "list" == Value.type "dict") = false := by decide
        have gl : (s.heap.push (nSet w)).IsList l its := ⟨_, gO', rfl, nl, rfl⟩
        unfold Builtin.«set.__init__» noKeywords Builtin.Frozenset.updateFrom
        generalize ePI : pyIter = PI
        wp_walk
        subst ePI
        refine wpAny_pyIter_list gl (wpAny_bind (wpAny_runValue ?_))
        have lt : l < s.heap.objs.size := Heap.lt_size gO
        have calm3 : A.in1.in1.in1.handled = none := by simp [calm]
        have n1 : l ≠ (s.heap.push (nSet w)).objs.size := fun z => Nat.lt_irrefl _ (Nat.lt_succ_of_lt lt |> fun y => by rw [z, Heap.size_push] at y; exact y)
        have n2 : s.heap.objs.size ∉ [(s.heap.push (nSet w)).objs.size, l] := by
          rw [Heap.size_push]
          intro z
          rcases List.mem_cons.mp z with z | z
          · exact absurd z (Nat.ne_of_lt (Nat.lt_succ_self _))
          · exact absurd (List.mem_singleton.mp z) (Nat.ne_of_gt lt)
        have vl : ∀ (i : Nat) (v : Value), its[i]? = some v → ∃ x tk, xs[i]? = some x ∧ v = .str (tx x) tk := fun i v hv => strs_atT gI i v (by rw [Array.getElem?_toList]; exact hv)
        refine upd_texts (Walks.toS (Walks.list calm3 _ l n1 its)) s.heap.objs.size n2 xs sz few vl (its.size - 0) 0 _ (by omega) (Nat.zero_le _) ⟨⟨_, Heap.get?_push_size _ rfl, rfl, rfl⟩, gl.push _⟩ ?g0 ?gR
        case g0 => exact setS_new (Heap.get?_push_of_some _ gN)
        case gR =>
          intro s' mv g'
          obtain ⟨h', g2, d2, tk2, os2⟩ := s'
          obtain rfl : g2 = s.gens := mv.gens
          obtain rfl : d2 = s.drawn := mv.drawn
          obtain rfl : os2 = s.os := mv.os
          show wpAny _ _ (_) _ _ _
          refine wpAny_pure (?_ : wpAny _ _ (ret Value.none) _ _ _)
          refine wpAny_pure ⟨rfl, h', tk2, rfl, g', fun b o e => ?_⟩
          have lb : b < s.heap.objs.size := Heap.lt_size e
          refine mv.heap b o ?_ (Heap.get?_push_of_some _ (Heap.get?_push_of_some _ e))
          rw [Heap.size_push]
          intro z
          rcases List.mem_cons.mp z with z | z
          · exact absurd z (Nat.ne_of_lt lb)
          · exact absurd (List.mem_singleton.mp z) (Nat.ne_of_lt (Nat.lt_succ_of_lt lb))
      · cases r2 with
        | error e => exact hr2
        | ok fl2 =>
          cases fl2 with
          | ret r =>
            obtain ⟨rfl, h', tk, rfl, g', k'⟩ := hr2
            repeat any_goals (first | assumption | wp_step)
            exact q _ _ g' k'
          | _ => exact hr2.elim
    | _ => exact hr.elim
end

/-! ### what is asked of sets of texts -/
def SetSO (P : Program) (w : World) (a : Addr) (xs : List (List Nat)) : HO := .ext fun h => SetS P w h a xs
theorem setSO_ok {P : Program} {w : World} {H : Hp} {h : Heap} {a : Addr} {xs : List (List Nat)} (G : SetS P w h a xs) : ObjOk P w H h a (SetSO P w a xs) := by
  have ⟨o, _, _, _, z, _⟩ := G
  exact ⟨G, ⟨o, z⟩, fun _ _ p k => SetG.keep p k⟩
section
variable {X : Cx}
theorem setSO_at {pins : List (Addr × Obj)} {σ : St} {H : Hp} {s : Shared} {a : Addr} {xs : List (List Nat)} (I : Inv X pins σ H s) (e : H a = some (SetSO X.prog X.w a xs)) : SetS X.prog X.w s.heap a xs := (I.hok a _ e).1
def rSetT (K : PySem.W.Frag) (P : Program) (w : World) : List V → Hp → VK → Prop := fun vs H Q => ∃ (l : Addr) (xs : List (List Nat)), vs = [V.ref l] ∧ SqL K H l ((xs.map tx).map V.str) ∧ xs.length < 4000 ∧ ∀ p, H p = none → Q (.ref p) (upd H p (SetSO P w p (dedT xs)))
theorem cr_setT (calm : X.calm = true) : CallR X (.type "set") (rSetT X.K X.prog X.w) := by
  intro pins s σ H vs us Q I r h
  obtain ⟨l, xs, rfl, hs, few, q⟩ := h
  rw [Vals.ref1 r]
  obtain ⟨its, rv, pl, hz⟩ := I.list hs
  have e := rv.length
  simp only [List.length_map] at e
  refine call_setL (I.ok.hd calm) pl.isList (by simpa using rv.strs) (by simp only [List.size_toArray]; have : scanBound = 4096 := rfl; omega) fun h' tk g k => ?_
  exact ⟨.ref _, upd H s.heap.objs.size (SetSO X.prog X.w s.heap.objs.size (dedT xs)), I.laid (t' := tk) (fun b u e => k b u e) (Nat.le_refl _) (setSO_ok g), rfl, q _ (I.hok.fresh (Nat.le_refl _))⟩
def rLenT (P : Program) (w : World) : List V → Hp → VK → Prop := fun vs H Q => ∃ (a : Addr) (xs : List (List Nat)), vs = [V.ref a] ∧ H a = some (SetSO P w a xs) ∧ Q (.int (xs.length : Nat)) H
theorem cr_lenT : CallR X (.builtin "len") (rLenT X.prog X.w) := by
  intro pins s σ H vs us Q I r h
  obtain ⟨a, xs, rfl, ha, q⟩ := h
  rw [Vals.ref1 r]
  obtain ⟨o, rs, n, t, gO, gX, gD, ⟨_, gP, _⟩, gB, gF, _⟩ := setSO_at I ha
  have e := gP.length_eq
  simp only [List.length_map, Array.length_toList] at e
  have : scanBound = 4096 := rfl
  exact call_len_set gO gX gD gF (by omega) ⟨.int (xs.length : Nat), H, I.tok _, ⟨_, by rw [← e]⟩, q⟩
end
end DL

/-! DL: sets of texts: equality, order, the expressions. -/
namespace DL
open PySem PySem.Spec L2
open PyProof.Rows hiding St

/-! ### equality -/
section
variable {P : Program} {w : World} {A : Around} {E : Value → Shared → Prop} {s : Shared} {a b : Addr} {xs ys : List (List Nat)}
theorem setS_of (G : SetS P w s.heap a xs) : s.heap.SetOf (PySem.strKind P w) a (fun k => decide (k.cps.toList ∈ xs)) xs.length := by
  obtain ⟨o, rs, n, t, gO, gX, gD, ⟨gE, gP, gN⟩, gB, gF, _⟩ := G
  refine ⟨o, rs, n, t, gO, gX, gD, txt_elems gE, fun k => ?_, gB, gF, by have := gP.length_eq; simpa using this⟩
  rw [decide_eq_true_eq, ← gP.mem_iff, List.mem_map]
  have ek : k = tx k.cps.toList := by simp [tx]
  constructor
  · rintro ⟨e, he, q⟩
    exact ⟨e, he, by rw [ek]; exact (txtE_is (gE e he) _).mpr q⟩
  · rintro ⟨e, he, q⟩
    exact ⟨e, he, (txtE_is (gE e he) _).mp (by rw [← ek]; exact q)⟩
theorem quiet_str {x : Str} {tk : Tok} {Q : Bool → Shared → Prop} (q : Q true s) : wpAny (model P w) A (Builtin.Frozenset.quietEq (.str x tk)) Q E s := wpAny_pure q
theorem quiet_walk (Ga : SetS P w s.heap a xs) (Gb : SetS P w s.heap b ys) {Q : List Rw → Shared → Prop} (q : ∀ l, TxtL P w xs l → Q l s) : wpAny (model P w) A (Builtin.Frozenset.walkUnseen a b) Q E s := by
  obtain ⟨o, rs, n, t, gO, gX, gD, gT, gB, gF, _⟩ := Ga
  obtain ⟨o2, rs2, n2, t2, gO2, gX2, gD2, gT2, gB2, gF2, _⟩ := Gb
  unfold Builtin.Frozenset.walkUnseen
  refine wpAny_bind (wpAny_setEntries_of gO gD gF ?_)
  refine wpAny_bind (wpAny_setEntries_of gO2 gD2 gF2 ?_)
  have all : ∀ e, e ∈ rs.toList ++ rs2.toList → TxtE P w e := fun e he => (List.mem_append.mp he).elim (gT.1 e) (gT2.1 e)
  refine wpAny_bind (wpAny_forIn_list _ (fun rest z s' => z = (none, ()) ∧ s' = s ∧ ∀ e, e ∈ rest → TxtE P w e) _ ?turn ?fin _ _ ⟨rfl, rfl, all⟩)
  case turn =>
    rintro ⟨k, v⟩ rest z s' ⟨rfl, rfl, h⟩
    obtain ⟨x, tk, rfl, _⟩ := h _ List.mem_cons_self
    refine wpAny_bind (quiet_str ?_)
    exact wpAny_pure ⟨rfl, rfl, fun e he => h e (List.mem_cons_of_mem _ he)⟩
  case fin =>
    rintro z s' ⟨rfl, rfl, _⟩
    exact wpAny_pure (q _ gT)
theorem subset_at {nm : String} (Ga : SetS P w s.heap a xs) (Gb : SetS P w s.heap b ys) (le : xs.length ≤ ys.length) {Q : Bool → Shared → Prop} (q : Q (xs.all fun x => decide (x ∈ ys)) s) : wpAny (model P w) A (Builtin.Frozenset.subsetOf nm a b) Q E s := by
  obtain ⟨o, rs, n, t, gO, gX, gD, gT, gB, gF, _⟩ := id Ga
  obtain ⟨o2, rs2, n2, t2, gO2, gX2, gD2, gT2, gB2, gF2, _⟩ := id Gb
  have e1 := gT.2.1.length_eq
  have e2 := gT2.2.1.length_eq
  simp only [List.length_map, Array.length_toList] at e1 e2
  unfold Builtin.Frozenset.subsetOf
  refine wpAny_bind (m := Builtin.Frozenset.sizeOf a) ?_
  unfold Builtin.Frozenset.sizeOf
  refine wpAny_bind (wpAny_setEntries_of gO gD gF (wpAny_pure ?_))
  refine wpAny_bind (wpAny_bind (wpAny_setEntries_of gO2 gD2 gF2 (wpAny_pure ?_)))
  rw [if_neg (by omega)]
  refine wpAny_bind (wpAny_setEpoch_of gO gD gF ?_)
  refine wpAny_bind (quiet_walk Ga Gb fun l hl => ?_)
  have ini : (xs.all fun x => decide (x ∈ ys)) = l.all fun e => decide (cpsOf e ∈ ys) := by
    rw [← hl.2.1.all_eq, List.all_map]
    rfl
  refine wpAny_bind (wpAny_forIn_list _ (fun rest z s' => z = (none, ()) ∧ s' = s ∧ (∀ e, e ∈ rest → TxtE P w e) ∧ (xs.all fun x => decide (x ∈ ys)) = rest.all fun e => decide (cpsOf e ∈ ys)) _ ?turn ?fin _ _ ⟨rfl, rfl, hl.1, ini⟩)
  case turn =>
    rintro ⟨k, v⟩ rest z s' ⟨rfl, rfl, h, e⟩
    obtain ⟨x, tk, (rfl : v = _), (rfl : k = _)⟩ := h _ List.mem_cons_self
    have ex : cpsOf ((PySem.strKind P w).hash (tx x), Value.str (tx x) tk) = x := cpsOf_tx (tk := tk) rfl
    rw [List.all_cons, ex] at e
    refine wpAny_bind (wpAny_holding (wpAny_setFind_of (k := tx x) (strKind_is P w _ _) rfl (setS_of Gb) fun r hr => ?_))
    have hr : r.isSome = decide (x ∈ ys) := by simpa [tx] using hr
    cases r with
    | none =>
      simp only [Option.isNone_none, if_true]
      rw [← hr] at e
      simp only [Option.isSome_none, Bool.false_and] at e
      rw [e] at q
      exact wpAny_pure (wpAny_pure q)
    | some j =>
      simp only [Option.isNone_some, Bool.false_eq_true, if_false]
      rw [← hr] at e
      simp only [Option.isSome_some, Bool.true_and] at e
      unfold Builtin.Frozenset.unchanged
      refine wpAny_bind (wpAny_bind (wpAny_setEpoch_of gO gD gF ?_))
      rw [if_neg (by simp)]
      exact wpAny_pure (wpAny_pure ⟨rfl, rfl, fun e he => h e (List.mem_cons_of_mem _ he), e⟩)
  case fin =>
    rintro z s' ⟨rfl, rfl, _, e⟩
    rw [e] at q
    exact wpAny_pure q
theorem setS_type (G : SetS P w s.heap a xs) : s.TypeIs (.ref a) "set" :=
  let ⟨o, _, _, _, z, x, _⟩ := G
  ⟨o, z, x.1⟩
theorem entry_set_eqT : entryFor table "set.__eq__" = some Builtin.«frozenset.__eq__» := entryFor_alias (id' := "frozenset.__eq__") (by kernel_rfl) rfl (by decide +kernel) (by kernel_rfl)
theorem entry_set_neT : entryFor table "set.__ne__" = some Builtin.«frozenset.__ne__» := entryFor_alias (id' := "frozenset.__ne__") (by kernel_rfl) rfl (by decide +kernel) (by kernel_rfl)
def sameT (xs ys : List (List Nat)) : Bool := decide (xs.length = ys.length) && xs.all fun x => decide (x ∈ ys)
theorem any_set {v : Value} (tv : s.TypeIs v "set") {Q : Bool → Shared → Prop} (q : Q true s) : wpAny (model P w) A (Builtin.Frozenset.isAnySet v) Q E s := by
  unfold Builtin.Frozenset.isAnySet
  refine wpAny_bind (wpAny_isInstance tv sub_set_self ?_)
  exact wpAny_pure q
theorem subFT : isSubtype (.type "set") (.type "frozenset") = pure false := by rw [isSubtype_type]; kernel_rfl
theorem no_froz {v u : Value} (tv : s.TypeIs v "set") {Q : Bool → Shared → Prop} (q : Q false s) : wpAny (model P w) A (isInstance v (.type "frozenset") <&&> isInstance u (.type "frozenset")) Q E s := by
  refine wpAny_bind (wpAny_isInstance tv subFT ?_)
  exact wpAny_pure q
theorem size_at (Ga : SetS P w s.heap a xs) {Q : Nat → Shared → Prop} (q : Q xs.length s) : wpAny (model P w) A (Builtin.Frozenset.sizeOf a) Q E s := by
  obtain ⟨o, rs, n, t, gO, gX, gD, gT, gB, gF, _⟩ := id Ga
  have e1 := gT.2.1.length_eq
  simp only [List.length_map, Array.length_toList] at e1
  unfold Builtin.Frozenset.sizeOf
  exact wpAny_bind (wpAny_setEntries_of gO gD gF (wpAny_pure (e1 ▸ q)))
def rEqT (P : Program) (w : World) (neg : Bool) : V → V → Hp → VK → Prop := fun x y H Q => ∃ (a b : Addr) (xs ys : List (List Nat)), x = V.ref a ∧ y = V.ref b ∧ H a = some (SetSO P w a xs) ∧ H b = some (SetSO P w b ys) ∧ Q (.bl (sameT xs ys != neg)) H
theorem eq_at (Ga : SetS P w s.heap a xs) (Gb : SetS P w s.heap b ys) (hu : A.units < cLine) {Q : Value → Shared → Prop} (q : Q (.bool (sameT xs ys)) s) : wpAny (model P w) A (compareOp .Eq (.ref a) (.ref b)) Q E s := by
  have ta := setS_type Ga
  have tb := setS_type Gb
  refine wpAny_richCompare_same_room (op := .Eq) ta tb PySem.F.slot_set_eq (wpAny_call_entry PySem.F.slot_set_eq ta entry_set_eqT ?_ (PySem.F.args_set_eq_2 _ _)) hu
  show wpAny _ _ (Builtin.Frozenset.slot1 "__eq__" ⟨[.ref a, .ref b], []⟩ >>= fun p => _) _ _ s
  refine wpAny_bind (wpAny_of_eq (a := (Value.ref a, Value.ref b)) (by rfl) ?_)
  dsimp only
  refine wpAny_bind (any_set tb ?_)
  rw [if_neg (by simp)]
  refine wpAny_bind (wpAny_pure (wpAny_bind (wpAny_pure ?_)))
  refine wpAny_bind (size_at Ga (wpAny_bind (size_at Gb ?_)))
  refine wpAny_bind (wpAny_mono (Q := fun z s' => z = sameT xs ys ∧ s' = s) ?_ ?_ (fun _ _ z => z))
  · by_cases hl : xs.length = ys.length
    · rw [if_neg (by simp [hl])]
      refine wpAny_bind (no_froz ta ?_)
      rw [if_neg (by simp)]
      refine subset_at Ga Gb (by omega) ⟨?_, rfl⟩
      unfold sameT
      rw [decide_eq_true hl, Bool.true_and]
    · rw [if_pos (by simpa using hl)]
      refine wpAny_pure ⟨?_, rfl⟩
      unfold sameT
      rw [decide_eq_false hl, Bool.false_and]
  · rintro z s' ⟨rfl, rfl⟩
    exact wpAny_pure ⟨_, rfl, by simp, q⟩
theorem ne_at (Ga : SetS P w s.heap a xs) (Gb : SetS P w s.heap b ys) (hu : A.units < cLine) {Q : Value → Shared → Prop} (q : Q (.bool (!sameT xs ys)) s) : wpAny (model P w) A (compareOp .NotEq (.ref a) (.ref b)) Q E s := by
  have ta := setS_type Ga
  have tb := setS_type Gb
  refine wpAny_richCompare_same_room (op := .NotEq) ta tb PySem.F.slot_set_ne (wpAny_call_entry PySem.F.slot_set_ne ta entry_set_neT ?_ (PySem.F.args_set_ne_2 _ _)) hu
  show wpAny _ _ (Builtin.Frozenset.slot1 "__ne__" ⟨[.ref a, .ref b], []⟩ >>= fun p => _) _ _ s
  refine wpAny_bind (wpAny_of_eq (a := (Value.ref a, Value.ref b)) (by rfl) ?_)
  dsimp only
  refine wpAny_bind (any_set tb ?_)
  rw [if_neg (by simp)]
  refine wpAny_bind (wpAny_pure (wpAny_bind (wpAny_pure ?_)))
  refine wpAny_bind (size_at Ga (wpAny_bind (size_at Gb ?_)))
  refine wpAny_bind (wpAny_mono (Q := fun z s' => z = sameT xs ys ∧ s' = s) ?_ ?_ (fun _ _ z => z))
  · by_cases hl : xs.length = ys.length
    · rw [if_neg (by simp [hl])]
      refine wpAny_bind (no_froz ta ?_)
      rw [if_neg (by simp)]
      refine subset_at Ga Gb (by omega) ⟨?_, rfl⟩
      unfold sameT
      rw [decide_eq_true hl, Bool.true_and]
    · rw [if_pos (by simpa using hl)]
      refine wpAny_pure ⟨?_, rfl⟩
      unfold sameT
      rw [decide_eq_false hl, Bool.false_and]
  · rintro z s' ⟨rfl, rfl⟩
    exact wpAny_pure ⟨_, rfl, by simp, q⟩
end
section
variable {X : Cx}
theorem op_eqT (hu : X.A.units < cLine) : OpR X (compareOp .Eq) (rEqT X.prog X.w false) := by
  intro pins s σ H x y v u Q I rx ry h
  obtain ⟨a, b, xs, ys, rfl, rfl, ha, hb, q⟩ := h
  cases rx
  cases ry
  exact eq_at (setSO_at I ha) (setSO_at I hb) hu ⟨.bl (sameT xs ys), H, I.tok _, rfl, by simpa using q⟩
theorem op_neT (hu : X.A.units < cLine) : OpR X (compareOp .NotEq) (rEqT X.prog X.w true) := by
  intro pins s σ H x y v u Q I rx ry h
  obtain ⟨a, b, xs, ys, rfl, rfl, ha, hb, q⟩ := h
  cases rx
  cases ry
  exact ne_at (setSO_at I ha) (setSO_at I hb) hu ⟨.bl (!sameT xs ys), H, I.tok _, rfl, by simpa using q⟩
end

/-! ### sorted -/
section
variable {P : Program} {w : World} {A : Around} {E : Value → Shared → Prop} {s : Shared} {a : Addr} {xs : List (List Nat)}
theorem strs_map_tx : ∀ {us : List Value} {ys : List Str}, StrsAre us ys → ys = (ys.map fun y => y.cps.toList).map tx := fun {us ys} _ => by
  rw [List.map_map]
  conv => lhs; rw [← List.map_id ys]
  exact List.map_congr_left fun y _ => by simp [tx]
theorem strs_txtE : ∀ (l : List Value), (∀ v, v ∈ l → ∃ x tk, v = Value.str (tx x) tk) → StrsAre l ((l.map fun v => cpsOf (0, v)).map tx)
  | [], _ => .nil
  | v :: l, h => by
    obtain ⟨x, tk, rfl⟩ := h v List.mem_cons_self
    have e : cpsOf (0, Value.str (tx x) tk) = x := cpsOf_tx (tk := tk) rfl
    simp only [List.map_cons, e]
    exact .cons _ tk (strs_txtE l fun u hu => h u (List.mem_cons_of_mem _ hu))
set_option maxHeartbeats 2000000 in
theorem sorted_at (G : SetS P w s.heap a xs) (calm : A.handled = none) {Q : Value → Shared → Prop}
    (q : ∀ s' p (out : Array Value) (c : Nat) (ss : List Str), (∀ b o, s.heap.get? b = some o → s'.heap.get? b = some o) → s'.gens = s.gens → s'.os = s.os → s.heap.objs.size ≤ p → s'.heap.get? p = some (seqObj "list" out c) → StrsAre out.toList ss → ss.Perm (xs.map tx) → sortedS ss = true → Q (.ref p) s') :
    wpAny (model P w) A (call (.builtin "sorted") [.ref a]) Q E s := by
  obtain ⟨o, rs, n, t, gO, gX, gD, ⟨gE, gP, gN⟩, gB, gF, gR, gL⟩ := G
  have e1 := gP.length_eq
  simp only [List.length_map, Array.length_toList] at e1
  refine Calls.call_function_entry kind_sorted plain_sorted entry_sorted (args_sorted1 (.ref a)) ?_
  unfold Builtin.«sorted»
  refine (wpAny_bind (m := checkCount "sorted" 1 1 _) (wpAny_pure ?_))
  refine (wpAny_bind (collect_set (A := A.in1) calm ⟨o, gO, gX.1, gD⟩ gF gB gR gL fun s1 vs k1 z1 g1 o1 pm => ?_))
  have vlen : vs.length = xs.length := by rw [pm.length_eq, List.length_map, Array.length_toList, e1]
  have hS : StrsAre vs ((vs.map fun v => cpsOf (0, v)).map tx) := strs_txtE vs fun v hv => by
    obtain ⟨e, he, rfl⟩ := List.mem_map.mp (pm.mem_iff.mp hv)
    obtain ⟨x, tk, ex, _⟩ := gE e he
    exact ⟨x, tk, ex⟩
  have pk : (vs.map fun v => cpsOf (0, v)).Perm xs := by
    have z := pm.map fun v => cpsOf (0, v)
    rw [List.map_map] at z
    exact z.trans gP
  have fits : vs.length ≤ sizeLine := by rw [vlen, ← e1]; exact fits_of_scanBound gB
  refine wpAny_bind (wpAny_newList ?_ fits)
  have gN' : (s1.heap.push (seqObj "list" vs.toArray 0)).get? s1.heap.objs.size = some (seqObj "list" vs.toArray 0) := Heap.get?_push_size _ rfl
  refine wpAny_bind (wpAny_holding (wpAny_call_entry slot_list_sort ⟨_, gN', rfl⟩ entry_list_sort ?_ (args_list_sort _)))
  refine list_sort_treeKAny strKind_oneLt gN' hS.keysOf (fun v1 v2 rest e => keyKind_strs (by rw [← e]; exact hS)) fits fun st' hp hs => ⟨_, rfl, ?_⟩
  obtain ⟨ss', h1, h2, h3⟩ := sorted_out_str hS hp hs
  obtain ⟨c, hc⟩ := sortedHeap_at (vs := vs) (out := (arrOf st').map (·.2)) gN'
  refine wpAny_pure ⟨_, rfl, q _ s1.heap.objs.size _ c ss' (fun b u e => ?_) g1 o1 z1 hc h1 (h2.trans (pk.map tx)) h3⟩
  have z := k1 b u e
  have lt := Heap.lt_size z
  refine (sortedHeap_old (Nat.ne_of_lt lt) (by rw [size_push']; exact Nat.lt_succ_of_lt lt)).trans ?_
  exact Heap.get?_push_of_some _ z
end
section
variable {X : Cx}
def rSortT (P : Program) (w : World) : List V → Hp → VK → Prop := fun vs H Q => ∃ (a : Addr) (xs : List (List Nat)), vs = [V.ref a] ∧ H a = some (SetSO P w a xs) ∧ ∀ p, H p = none → Q (.ref p) (upd H p (.lst (((sortT xs).map tx).map V.str)))
theorem cr_sortT (calm : X.calm = true) : CallR X (.builtin "sorted") (rSortT X.prog X.w) := by
  intro pins s σ H vs us Q I r h
  obtain ⟨a, xs, rfl, ha, q⟩ := h
  have G := setSO_at I ha
  rw [Vals.ref1 r]
  refine sorted_at G (I.ok.hd calm) fun s' p out c ss k g o hp hg hi hs ho => ?_
  obtain ⟨zs, rfl, hz⟩ := tx_map_of_perm hs
  obtain rfl : zs = sortT xs := sortT_eq hz (by
    cases zs with
    | nil => exact .nil
    | cons z zs => exact rising_pw zs z ho)
  obtain ⟨_, rs, _, _, _, _, _, ⟨_, gP, _⟩, gB, _⟩ := G
  have hlen : (((sortT xs).map tx).map V.str).length ≤ sizeLine := by
    have e1 := gP.length_eq
    have e2 := hz.length_eq
    simp only [List.length_map, Array.length_toList] at e1 e2 ⊢
    rw [e2, ← e1]
    exact fits_of_scanBound gB
  have hn : H p = none := I.hok.fresh hp
  have J : Inv X pins σ (upd H p (.lst (((sortT xs).map tx).map V.str))) { s with heap := s'.heap, gens := s'.gens, drawn := s'.drawn, toks := s'.toks } :=
    I.call (ch := []) (Un.laid k hp hn) (I.hok.laid k hp ⟨hlen, out.toList, c, vals_of_strs hi, hg⟩) (by rw [g]; exact I.bare) (fun _ z => nomatch z)
  have e : s' = { s with heap := s'.heap, gens := s'.gens, drawn := s'.drawn, toks := s'.toks } := by
    cases s'
    cases s
    cases o
    rfl
  exact e ▸ ⟨.ref p, _, J, rfl, q p hn⟩
end
end DL

/-! DL: expressions that are sets of texts; what is asked of them. -/
namespace DL
open PySem PySem.Spec L2
open PyProof.Rows hiding St
abbrev MT := SD → MS → Res (List (List Nat))
def RT (P : Program) (w : World) (ro : Pl) (H : Hp) (xs : List (List Nat)) (v : V) : Prop := ∃ p, v = .ref p ∧ H p = some (SetSO P w p xs) ∧ p ∉ ro.all
def liftT (X : Cx) (W : WX) (m : MT) : TE := fun st H Q => ∃ ro sd M, RelS X.K X.mg ro M H ∧ RepSt X.K X.mg ro H sd st ∧ Post (RT X.prog X.w) X.K X.mg (fun c d H' => W c d st H') ro H Q (m sd M)
/-- e is a set of texts -/
structure DZ (X : Cx) (W : WX) (e : Expr) (m : MT) : Prop where
  pe : PE X e (liftT X W m)
/-- set(e) -/
def setR (ma : ME) : MT := fun sd M => (ma sd M).bind fun d M1 => match (lst1 [d] M1).bind stsOf with
  | some xs => if xs.length < 4000 then .ok (dedT xs) M1 else .stuck
  | none => .stuck
def lenZE (m : MT) : ME := fun sd M => (m sd M).bind fun xs M1 => .ok (.int (xs.length : Nat)) M1
def sortZE (m : MT) : ME := fun sd M => (m sd M).bind fun xs M1 => .ok (.lst ((sortT xs).map D.str)) M1
def sameZE (neg : Bool) (m m' : MT) : ME := fun sd M => (m sd M).bind fun xs M1 => (m' sd M1).bind fun ys M2 => .ok (.bl (sameT xs ys != neg)) M2
section
variable {X : Cx} {W : WX} {e e' : Expr} {ma : ME} {m m' : MT} {p p2 pos q : Pos}
theorem dz_set (calm : X.calm = true) (hg : Gl X "set") (hm : X.mg "set" = none) (he : DE X W e ma) (hs : starEach [e] X.env = (false, eval e X.env) :: starEach [] X.env := by rfl) : DZ X W (.Call (.Name "set" p) [e] [] pos) (setR ma) := by
  refine ⟨⟨fun pins s st H Q I z => (pe_callTy (cr_setT calm) hg hm boot_set (pa_cons he.pe pa_nil hs) (by decide) (by decide) hs (by rfl)).run pins s st H Q I ?_⟩⟩
  obtain ⟨ro, sd, M, R, S, P⟩ := z
  refine ⟨ro, sd, M, R, S, (Post.bind P).imp fun x H1 ⟨ro1, M1, d, R1, P1, r1, q1⟩ => ?_⟩
  split at q1
  · rename_i xs hx
    split at q1
    · rename_i hl
      obtain ⟨es, h1, h2⟩ := Option.bind_eq_some_iff.mp hx
      obtain ⟨a, vs, e1, hq, rs⟩ := lst1_at R1 (Reps.one r1) h1
      rw [stsOf_eq h2] at rs
      rw [Reps.strs rs] at hq
      obtain rfl : x = .ref a := by simpa using e1
      refine ⟨a, xs, rfl, hq, hl, fun p0 hp => ?_⟩
      obtain ⟨R2, P2⟩ := R1.alloc (o := SetSO X.prog X.w p0 (dedT xs)) hp
      exact q1 ro1 _ _ R2 P2 ⟨p0, rfl, upd_same, R1.fresh hp⟩
    · exact q1.elim
  · exact q1.elim
theorem de_lenZ (hg : Gl X "len") (hm : X.mg "len" = none) (he : DZ X W e m) (hs : starEach [e] X.env = (false, eval e X.env) :: starEach [] X.env := by rfl) : DE X W (.Call (.Name "len" p) [e] [] pos) (lenZE m) := by
  refine ⟨⟨fun pins s st H Q I z => (pe_callB cr_lenT hg hm boot_len (pa_cons he.pe pa_nil hs) (by decide) (by decide) hs (by rfl)).run pins s st H Q I ?_⟩⟩
  obtain ⟨ro, sd, M, R, S, P⟩ := z
  refine ⟨ro, sd, M, R, S, (Post.bind P).imp fun x H1 ⟨ro1, M1, xs, R1, P1, ⟨a, ea, ha, _⟩, q1⟩ => ?_⟩
  exact ⟨a, xs, by rw [ea], ha, q1 ro1 H1 _ R1 (Pres.refl _ _) rfl⟩
theorem de_sortZ (calm : X.calm = true) (hg : Gl X "sorted") (hm : X.mg "sorted" = none) (he : DZ X W e m) (hs : starEach [e] X.env = (false, eval e X.env) :: starEach [] X.env := by rfl) : DE X W (.Call (.Name "sorted" p) [e] [] pos) (sortZE m) := by
  refine ⟨⟨fun pins s st H Q I z => (pe_callB (cr_sortT calm) hg hm boot_sorted (pa_cons he.pe pa_nil hs) (by decide) (by decide) hs (by rfl)).run pins s st H Q I ?_⟩⟩
  obtain ⟨ro, sd, M, R, S, P⟩ := z
  refine ⟨ro, sd, M, R, S, (Post.bind P).imp fun x H1 ⟨ro1, M1, xs, R1, P1, ⟨a, ea, ha, _⟩, q1⟩ => ?_⟩
  refine ⟨a, xs, by rw [ea], ha, fun p0 hp => ?_⟩
  rw [List.map_map]
  exact PostD.newL R1 (map_reps (g := D.str) (v := V.str ∘ tx) (fun _ => rfl) _) q1 p0 hp
theorem same_run {neg : Bool} {ro : Pl} {H : Hp} {sd : SD} {M : MS} {st : St} {Q : VK} (R : RelS X.K X.mg ro M H) (S : RepSt X.K X.mg ro H sd st) (P : PostD X.K X.mg (fun c d H' => W c d st H') ro H Q (sameZE neg m m' sd M)) :
    liftT X W m st H fun x H1 => liftT X W m' st H1 fun y H2 => rEqT X.prog X.w neg x y H2 Q := by
  refine ⟨ro, sd, M, R, S, (Post.bind P).imp fun x H1 ⟨ro1, M1, xs, R1, P1, ⟨a, ea, ha, na⟩, q1⟩ => ?_⟩
  refine ⟨ro1, sd, M1, R1, S.mono P1, (Post.bind q1).imp fun y H2 ⟨ro2, M2, ys, R2, P2, ⟨b, eb, hb, nb⟩, q2⟩ => ?_⟩
  exact ⟨a, b, xs, ys, ea, eb, P2.keep a _ ha (Pl.out_ro na), hb, q2 ro2 H2 _ R2 (Pres.refl _ _) rfl⟩
theorem de_eqZ (hu : X.A.units < cLine) (ha : DZ X W e m) (hb : DZ X W e' m') (hm : behindInMarks .Eq e' = false := by first | exact nobehind _ (by decide) (by decide) | rfl) : DE X W (.Compare e [.Eq] [e'] pos) (sameZE false m m') := by
  refine ⟨⟨fun pins s st H Q I z => (pe_cmpR (op_eqT hu) ha.pe hb.pe hm).run pins s st H Q I ?_⟩⟩
  obtain ⟨ro, sd, M, R, S, P⟩ := z
  exact same_run R S P
theorem de_neZ (hu : X.A.units < cLine) (ha : DZ X W e m) (hb : DZ X W e' m') (hm : behindInMarks .NotEq e' = false := by first | exact nobehind _ (by decide) (by decide) | rfl) : DE X W (.Compare e [.NotEq] [e'] pos) (sameZE true m m') := by
  refine ⟨⟨fun pins s st H Q I z => (pe_cmpR (op_neT hu) ha.pe hb.pe hm).run pins s st H Q I ?_⟩⟩
  obtain ⟨ro, sd, M, R, S, P⟩ := z
  exact same_run R S P
def sameZB (neg : Bool) (m m' : MT) : MB := fun sd M => (m sd M).bind fun xs M1 => (m' sd M1).bind fun ys M2 => .ok (sameT xs ys != neg) M2
theorem same_runB {neg : Bool} {ro : Pl} {H : Hp} {sd : SD} {M : MS} {st : St} {Q : Bool → Hp → Prop} (R : RelS X.K X.mg ro M H) (S : RepSt X.K X.mg ro H sd st) (P : PostB X.K X.mg (fun c d H' => W c d st H') ro H Q (sameZB neg m m' sd M)) :
    liftT X W m st H fun x H1 => liftT X W m' st H1 fun y H2 => rEqT X.prog X.w neg x y H2 fun v H3 => ∃ k, v = .bl k ∧ Q k H3 := by
  refine ⟨ro, sd, M, R, S, (Post.bind P).imp fun x H1 ⟨ro1, M1, xs, R1, P1, ⟨a, ea, ha, na⟩, q1⟩ => ?_⟩
  refine ⟨ro1, sd, M1, R1, S.mono P1, (Post.bind q1).imp fun y H2 ⟨ro2, M2, ys, R2, P2, ⟨b, eb, hb, nb⟩, q2⟩ => ?_⟩
  exact ⟨a, b, xs, ys, ea, eb, P2.keep a _ ha (Pl.out_ro na), hb, _, rfl, q2 ro2 H2 _ R2 (Pres.refl _ _) rfl⟩
theorem dt_eqZ (hu : X.A.units < cLine) (ha : DZ X W e m) (hb : DZ X W e' m') (hm : behindInMarks .Eq e' = false := by first | exact nobehind _ (by decide) (by decide) | rfl) : DT X W (.Compare e [.Eq] [e'] pos) (sameZB false m m') := by
  refine ⟨⟨fun pins s st H Q I z => (pt_cmpR (op_eqT hu) ha.pe hb.pe hm).run pins s st H Q I ?_⟩⟩
  obtain ⟨ro, sd, M, R, S, P⟩ := z
  exact same_runB R S P
theorem dt_neZ (hu : X.A.units < cLine) (ha : DZ X W e m) (hb : DZ X W e' m') (hm : behindInMarks .NotEq e' = false := by first | exact nobehind _ (by decide) (by decide) | rfl) : DT X W (.Compare e [.NotEq] [e'] pos) (sameZB true m m') := by
  refine ⟨⟨fun pins s st H Q I z => (pt_cmpR (op_neT hu) ha.pe hb.pe hm).run pins s st H Q I ?_⟩⟩
  obtain ⟨ro, sd, M, R, S, P⟩ := z
  exact same_runB R S P
end
section
variable {sd : SD} {M : MS} {ma : ME} {m m' : MT} {neg : Bool}
@[simp] theorem lenZE_ap : lenZE m sd M = (m sd M).bind fun xs M1 => .ok (.int (xs.length : Nat)) M1 := rfl
@[simp] theorem sortZE_ap : sortZE m sd M = (m sd M).bind fun xs M1 => .ok (.lst ((sortT xs).map D.str)) M1 := rfl
@[simp] theorem sameZE_ap : sameZE neg m m' sd M = (m sd M).bind fun xs M1 => (m' sd M1).bind fun ys M2 => .ok (.bl (sameT xs ys != neg)) M2 := rfl
@[simp] theorem sameZB_ap : sameZB neg m m' sd M = (m sd M).bind fun xs M1 => (m' sd M1).bind fun ys M2 => .ok (sameT xs ys != neg) M2 := rfl
theorem setR_ap : setR ma sd M = (ma sd M).bind fun d M1 => match (lst1 [d] M1).bind stsOf with
  | some xs => if xs.length < 4000 then .ok (dedT xs) M1 else .stuck
  | none => .stuck := rfl
theorem setR_run {xs : List (List Nat)} {d : D} {M1 : MS} (h : ma sd M = .ok d M1) (h1 : isTup d = false) (h2 : seqOf M1 d = some (xs.map D.str)) (h3 : xs.length < 4000) : setR ma sd M = .ok (dedT xs) M1 := by
  rw [setR_ap, h, Res.bind_ok]
  simp [lst1, h1, h2, h3]
theorem mem_insT {xs : List (List Nat)} {x y : List Nat} : y ∈ insT xs x ↔ y ∈ xs ∨ y = x := by
  unfold insT
  split
  · constructor
    · exact .inl
    · rintro (h | rfl)
      · exact h
      · assumption
  · simp
theorem mem_foldl_insT {y : List Nat} : ∀ {xs ys : List (List Nat)}, y ∈ xs.foldl insT ys ↔ y ∈ ys ∨ y ∈ xs
  | [], ys => by simp
  | x :: xs, ys => by
    rw [List.foldl_cons, mem_foldl_insT, mem_insT, List.mem_cons]
    constructor
    · rintro ((h | h) | h)
      · exact .inl h
      · exact .inr (.inl h)
      · exact .inr (.inr h)
    · rintro (h | h | h)
      · exact .inl (.inl h)
      · exact .inl (.inr h)
      · exact .inr h
@[simp] theorem mem_dedT {xs : List (List Nat)} {y : List Nat} : y ∈ dedT xs ↔ y ∈ xs := by unfold dedT; rw [mem_foldl_insT]; simp
theorem insT_nodup {xs : List (List Nat)} {x : List Nat} (h : xs.Nodup) : (insT xs x).Nodup := by
  unfold insT
  split
  · exact h
  · rename_i hm
    rw [List.nodup_append]
    refine ⟨h, by simp, fun y hy z hz => ?_⟩
    rw [List.mem_singleton.mp hz]
    exact fun e => hm (e ▸ hy)
theorem foldl_insT_nodup : ∀ {xs ys : List (List Nat)}, ys.Nodup → (xs.foldl insT ys).Nodup
  | [], ys, h => h
  | x :: xs, ys, h => foldl_insT_nodup (xs := xs) (insT_nodup h)
theorem dedT_nodup (xs : List (List Nat)) : (dedT xs).Nodup := foldl_insT_nodup List.nodup_nil
/-- sets are the same: they have the same members -/
theorem sameT_iff {xs ys : List (List Nat)} (hx : xs.Nodup) (hy : ys.Nodup) : sameT xs ys = true ↔ ∀ x, x ∈ xs ↔ x ∈ ys := by
  unfold sameT
  rw [Bool.and_eq_true, decide_eq_true_eq, List.all_eq_true]
  constructor
  · rintro ⟨hl, h⟩
    have sub : ∀ x, x ∈ xs → x ∈ ys := fun x hx' => by simpa using h x hx'
    refine fun x => ⟨sub x, fun hx' => Classical.byContradiction fun hn => ?_⟩
    have := List.Nodup.length_le_of_subset (l₁ := x :: xs) (l₂ := ys) (List.nodup_cons.mpr ⟨hn, hx⟩) (fun y hy' => (List.mem_cons.mp hy').elim (fun e => e ▸ hx') (sub y))
    simp at this
    omega
  · intro h
    have p : xs.Perm ys := (List.perm_ext_iff_of_nodup hx hy).mpr h
    exact ⟨p.length_eq, fun x hx' => by simpa using (h x).mp hx'⟩
theorem sameT_ded {xs ys : List (List Nat)} : sameT (dedT xs) (dedT ys) = true ↔ ∀ x, x ∈ xs ↔ x ∈ ys := by
  rw [sameT_iff (dedT_nodup _) (dedT_nodup _)]
  simp
end
end DL

/-! DL: dicts with keys that are ints or texts, changed in place; reversed(range(..)). -/
namespace DL
open PySem PySem.Spec L2
open PyProof.Rows hiding St
/-! ### dicts -/
/-- {} -/
def dicE : ME := fun _ M => .ok (.cell M.length) (M ++ [.dic [] []])
def isKey (k : Key) (d : D) : Bool := decide (keyD d = some k)
/-- the keys and values behind d[i] = v -/
def dputD (ks ds : List D) (i v : D) : Option (List D × List D) := match keyD i with
  | some k => if ks.length < 1000000 then (if ks.any (isKey k) = true then some (ks, List.zipWith (fun d x => if isKey k d = true then v else x) ks ds) else some (ks ++ [i], ds ++ [v])) else none
  | none => none
def dputM (M : MS) (o i v : D) : Option MS := match o with
  | .cell n => match M[n]? with
    | some (.dic ks ds) => (dputD ks ds i v).map fun p => M.set n (.dic p.1 p.2)
    | _ => none
  | _ => none
def dputS (mo mi m : ME) : MST := fun sd M => SRes.ofE (m sd M) sd fun v M1 => SRes.ofE (mo sd M1) sd fun o M2 => SRes.ofE (mi sd M2) sd fun i M3 => match dputM M3 o i v with
  | some M4 => .nx sd M4
  | none => .stuck
/-- len of lists, tuples, texts, dicts -/
def lenX : List D → MS → Res D := fun ds M => match ds with
  | [.cell n] => match M[n]? with
    | some (.dic ks _) => .ok (.int ks.length) M
    | _ => lenF ds M
  | _ => lenF ds M
section
variable {K : PySem.W.Frag} {mg : Str → Option Value} {ro : Pl} {H : Hp} {M : MS}
theorem rep_key {i : D} {x : V} {k : Key} (r : Rep K mg ro H i x) (e : keyD i = some k) : x = kV k := by
  cases i with
  | int j => cases e; exact r
  | str y => cases e; exact r
  | _ => cases e
theorem keysD_cons {d : D} {ks : List D} {kl : List Key} (h : keysD (d :: ks) = some kl) : ∃ k l, keyD d = some k ∧ keysD ks = some l ∧ kl = k :: l := by
  unfold keysD at h
  split at h
  · rename_i k l h1 h2
    cases h
    exact ⟨k, l, h1, h2, rfl⟩
  · cases h
theorem keysD_len : ∀ {ks : List D} {kl : List Key}, keysD ks = some kl → kl.length = ks.length
  | [], kl, h => by cases h; rfl
  | d :: ks, kl, h => by
    obtain ⟨k, l, _, h2, rfl⟩ := keysD_cons h
    simp [keysD_len h2]
theorem keysD_any {k : Key} : ∀ {ks : List D} {kl : List Key}, keysD ks = some kl → ks.any (isKey k) = kl.any fun k' => decide (k' = k)
  | [], kl, h => by cases h; rfl
  | d :: ks, kl, h => by
    obtain ⟨k', l, h1, h2, rfl⟩ := keysD_cons h
    rw [List.any_cons, List.any_cons, keysD_any h2]
    unfold isKey
    rw [h1]
    simp
theorem keysD_snoc {i : D} {k : Key} : ∀ {ks : List D} {kl : List Key}, keysD ks = some kl → keyD i = some k → keysD (ks ++ [i]) = some (kl ++ [k])
  | [], kl, h, e => by cases h; simp [keysD, e]
  | d :: ks, kl, h, e => by
    obtain ⟨k', l, h1, h2, rfl⟩ := keysD_cons h
    rw [List.cons_append]
    unfold keysD
    rw [h1, keysD_snoc h2 e]
    rfl
theorem zip_map_key {k : Key} {v : V} : ∀ (kl : List Key) (vs : List V), kl.length = vs.length → (kl.zip vs).map (fun kv => if kv.1 = k then (kv.1, v) else kv) = kl.zip (List.zipWith (fun k' x => if k' = k then v else x) kl vs)
  | [], vs, _ => by simp
  | k' :: kl, [], h => by cases h
  | k' :: kl, x :: vs, h => by
    simp only [List.zip_cons_cons, List.map_cons, List.zipWith_cons_cons]
    rw [zip_map_key kl vs (by simpa using h)]
    congr 1
    split <;> rfl
theorem zip_any {k : Key} : ∀ (kl : List Key) (vs : List V), kl.length = vs.length → ((kl.zip vs).any fun kv => decide (kv.1 = k)) = kl.any fun k' => decide (k' = k)
  | [], vs, _ => by simp
  | k' :: kl, [], h => by cases h
  | k' :: kl, x :: vs, h => by
    simp only [List.zip_cons_cons, List.any_cons]
    rw [zip_any kl vs (by simpa using h)]
theorem zip_snoc {k : Key} {v : V} : ∀ (kl : List Key) (vs : List V), kl.length = vs.length → (kl ++ [k]).zip (vs ++ [v]) = kl.zip vs ++ [(k, v)]
  | [], [], _ => rfl
  | [], x :: vs, h => by cases h
  | k' :: kl, [], h => by cases h
  | k' :: kl, x :: vs, h => by simp [zip_snoc kl vs (by simpa using h)]
theorem Reps.zipPut {k : Key} {v : D} {y : V} (r : Rep K mg ro H v y) : ∀ {ks : List D} {kl : List Key} {ds : List D} {vs : List V}, keysD ks = some kl → Reps K mg ro H ds vs → Reps K mg ro H (List.zipWith (fun d x => if isKey k d = true then v else x) ks ds) (List.zipWith (fun k' x => if k' = k then y else x) kl vs)
  | [], kl, ds, vs, h, q => by cases h; simp [Reps]
  | d :: ks, kl, [], vs, h, q => by
    cases (show vs = [] from q)
    simp [Reps]
  | d :: ks, kl, x :: ds, vs, h, ⟨z, t, e, q1, q2⟩ => by
    obtain ⟨k', l, h1, h2, rfl⟩ := keysD_cons h
    subst e
    simp only [List.zipWith_cons_cons]
    refine ⟨_, _, rfl, ?_, Reps.zipPut r h2 q2⟩
    unfold isKey
    rw [h1]
    by_cases hk : k' = k
    · rw [if_pos (by simp [hk]), if_pos hk]; exact r
    · rw [if_neg (by simp [hk]), if_neg hk]; exact q1
/-- the new pairs stand for the new data -/
theorem dput_at {ks ds ks' ds' : List D} {i v : D} {kl : List Key} {vs : List V} {x y : V} (e : dputD ks ds i v = some (ks', ds')) (hk : keysD ks = some kl) (hl : kl.length = vs.length) (hd : Reps K mg ro H ds vs) (ri : Rep K mg ro H i x) (rv : Rep K mg ro H v y) :
    ∃ k, x = kV k ∧ (kl.zip vs).length < sizeLine ∧ ∃ kl' vs', putK (kl.zip vs) k y = kl'.zip vs' ∧ keysD ks' = some kl' ∧ kl'.length = vs'.length ∧ Reps K mg ro H ds' vs' := by
  unfold dputD at e
  cases hi : keyD i with
  | none => rw [hi] at e; cases e
  | some k =>
    rw [hi] at e
    dsimp only at e
    have lk := keysD_len hk
    split at e
    · rename_i hlen
      refine ⟨k, rep_key ri hi, ?_, ?_⟩
      · rw [List.length_zip, ← hl, Nat.min_self, lk]
        exact line_lt hlen
      · unfold putK
        rw [zip_any kl vs hl, ← keysD_any hk]
        split at e
        · rename_i ha
          cases e
          rw [if_pos ha]
          exact ⟨kl, _, zip_map_key kl vs hl, hk, by simp [hl], Reps.zipPut rv hk hd⟩
        · rename_i ha
          cases e
          rw [if_neg ha]
          exact ⟨kl ++ [k], vs ++ [y], (zip_snoc kl vs hl).symm, keysD_snoc hk hi, by simp [hl], hd.append (Reps.one rv)⟩
    · cases e
end
section
variable {X : Cx} {W : WX} {o i e : Expr} {mo mi m : ME} {pos tp p : Pos}
theorem de_dic : DE X W (.Dict [] [] pos) dicE := by
  refine ⟨⟨fun pins s st H Q I z => pe_dnewK.run pins s st H Q I ?_⟩⟩
  obtain ⟨ro, sd, M, R, S, P⟩ := z
  intro a ha
  obtain ⟨R1, P1⟩ := R.allocM (o := .dK []) (mo := .dic [] []) ha ⟨[], [], rfl, rfl, rfl, rfl⟩
  exact P _ _ _ R1 P1 ⟨a, rfl, by rw [← R.len]; simp⟩
theorem ds_dput (hu : X.A.units + 1 < cLine) (ho : DE X W o mo) (hi : DE X W i mi) (he : DE X W e m) (hs : swapsWith e (some (.Subscript o i tp)) pos.line X.env = pure false := by rfl) : DS X W (.Assign [.Subscript o i tp] e pos) (dputS mo mi m) := by
  refine ⟨⟨fun pins s st H D0 I z => (ps_dput hu ho.pe hi.pe he.pe hs).run pins s st H D0 I ?_⟩⟩
  obtain ⟨ro, sd, M, R, S, P⟩ := z
  refine ⟨ro, sd, M, R, S, (PostS.ofE P S).imp fun v H1 ⟨ro1, M1, dv, R1, P1, r1, q1⟩ => ?_⟩
  refine ⟨ro1, sd, M1, R1, S.mono P1, (PostS.ofE q1 (S.mono P1)).imp fun x H2 ⟨ro2, M2, dx, R2, P2, r2, q2⟩ => ?_⟩
  refine ⟨ro2, sd, M2, R2, (S.mono P1).mono P2, (PostS.ofE q2 ((S.mono P1).mono P2)).imp fun y H3 ⟨ro3, M3, di, R3, P3, r3, q3⟩ => ?_⟩
  have r1' := Rep.mono P3 _ _ (Rep.mono P2 _ _ r1)
  have r2' := Rep.mono P3 _ _ r2
  cases hM : dputM M3 dx di dv with
  | none => rw [hM] at q3; exact q3.elim
  | some M4 =>
    rw [hM] at q3
    cases dx with
    | cell n =>
      have hM : (match M3[n]? with | some (.dic ks ds) => (dputD ks ds di dv).map fun p => M3.set n (.dic p.1 p.2) | _ => none) = some M4 := hM
      split at hM
      · rename_i ks ds hn
        obtain ⟨⟨ks', ds'⟩, hp, rfl⟩ := Option.map_eq_some_iff.mp hM
        obtain ⟨a, ho, rfl, g, h, kl, vs, rfl, hk, hl, hd⟩ := R3.cellAt r2' hn
        obtain ⟨k, rfl, h1, kl', vs', e1, e2, e3, e4⟩ := dput_at hp hk hl hd r3 r1'
        obtain ⟨R4, P4⟩ := R3.change (o := .dK (putK (kl.zip vs) k v)) (mo := .dic ks' ds') g ⟨kl', vs', by rw [e1], e2, e3, e4⟩
        exact ⟨a, _, rfl, DPut.k h h1, q3 ro3 _ _ R4 P4 ((((S.mono P1).mono P2).mono P3).mono P4)⟩
      · cases hM
    | _ => cases hM
theorem callS_lenX : CallS X (.builtin "len") lenX := by
  obtain ⟨r, h1, h2⟩ := callS_len (X := X)
  refine ⟨fun vs H Q => r vs H Q ∨ ∃ a kvs, vs = [.ref a] ∧ H a = some (.dK kvs) ∧ Q (.int (kvs.length : Nat)) H, ?_, fun ro H M ds xs E Q R rs P => ?_⟩
  · intro pins s σ H vs us Q I rr q
    rcases q with q | ⟨a, kvs, rfl, ha, q⟩
    · exact h1 pins s σ H vs us Q I rr q
    · rw [Vals.ref1 rr]
      exact d_len I (.inl ha) fun t s' I' => ⟨.int (kvs.length : Nat), H, I', ⟨_, rfl⟩, q⟩
  · unfold lenX at P
    split at P
    · rename_i n
      split at P
      · rename_i ks ds hn
        obtain ⟨v, rfl, q⟩ := reps1 rs
        obtain ⟨a, ho, rfl, g, h, kl, vs, rfl, hk, hl, hd⟩ := R.cellAt q hn
        refine .inr ⟨a, _, rfl, h, ?_⟩
        rw [List.length_zip, ← hl, Nat.min_self, keysD_len hk]
        exact PostD.pure (d := .int ks.length) R rfl P
      · exact .inl (h2 ro H M _ xs E Q R rs P)
    · exact .inl (h2 ro H M _ xs E Q R rs P)
end
/-! ### reversed(range(..)) -/
def revN (n : Nat) : List Int := (List.range n).map fun (k : Nat) => (0 + (n : Int) - 1) + k * (-1)
theorem revN_eq (n : Nat) : revN n = (List.range n).reverse.map fun (k : Nat) => (k : Int) := by
  unfold revN
  apply List.ext_getElem
  · simp
  · intro i h1 h2
    simp at h1 h2
    simp
    omega
def rev1I (m : ME) : MI := fun sd M => (m sd M).bind fun d M1 => match d with
  | .int j => if -1000000000 ≤ j ∧ j ≤ 1000000000 then .ok (intsI (revN j.toNat)) M1 else .stuck
  | _ => .stuck
section
variable {X : Cx} {W : WX} {tg a : Expr} {m : ME} {p p2 pos q : Pos}
theorem di_rev1 (hg : Gl X "reversed") (hm : X.mg "reversed" = none) (hg2 : Gl X "range") (hm2 : X.mg "range" = none) (he : DE X W a m) (na : starEach [a] X.env = (false, eval a X.env) :: starEach [] X.env := by rfl)
    (hs : starEach [.Call (.Name "range" p2) [a] [] q] X.env = (false, eval (.Call (.Name "range" p2) [a] [] q) X.env) :: starEach [] X.env := by rfl) :
    DI X W tg (.Call (.Name "reversed" p) [.Call (.Name "range" p2) [a] [] q] [] pos) (rev1I m) := by
  refine ⟨⟨fun pins s st H Q I z => (pi_revR hg hm (prg_1 hg2 hm2 he.pe na) hs).run pins s st H Q I ?_⟩⟩
  obtain ⟨ro, sd, M, R, S, P⟩ := z
  refine ⟨ro, sd, M, R, S, (Post.bind P).imp fun x H1 ⟨ro1, M1, d, R1, P1, r1, q1⟩ => ?_⟩
  split at q1
  · rename_i j
    cases (show x = V.int j from r1)
    split at q1
    · rename_i hj
      refine ⟨j, rfl, by omega, by omega, by omega, by omega, ?_⟩
      rw [Int.sub_zero]
      exact q1 ro1 H1 _ R1 (Pres.refl _ _) (iterOk_ints (0 + (j.toNat : Int) - 1) (-1) j.toNat)
    · exact q1.elim
  · exact q1.elim
end
end DL

/-! words under regrouping and twice is once: plain Lean, no program in sight. -/
namespace DL
abbrev Lr := List Nat
abbrev Wd := List (List Nat)
def SameC (u v : Wd) : Prop := ∀ x, x ∈ u ↔ x ∈ v
theorem SameC.refl (u : Wd) : SameC u u := fun _ => Iff.rfl
theorem SameC.symm {u v : Wd} (h : SameC u v) : SameC v u := fun x => (h x).symm
theorem SameC.trans {u v w : Wd} (h : SameC u v) (k : SameC v w) : SameC u w := fun x => (h x).trans (k x)
theorem SameC.nil {u v : Wd} (h : SameC u v) (e : u = []) : v = [] := by
  subst e
  cases v with
  | nil => rfl
  | cons x v => exact absurd ((h x).mpr List.mem_cons_self) (by simp)
/-- p is the longest beginning of w that lacks a letter, a the letter behind it -/
def Beg (w p : Wd) (a : Lr) : Prop := (∃ r, w = p ++ a :: r) ∧ a ∉ p ∧ ∀ x, x ∈ w → x ∈ p ∨ x = a
theorem Beg.uniq {w p p' : Wd} {a a' : Lr} (h : Beg w p a) (h' : Beg w p' a') : p = p' ∧ a = a' := by
  obtain ⟨⟨r, e⟩, n, c⟩ := h
  obtain ⟨⟨r', e'⟩, n', c'⟩ := h'
  have key : ∀ {p p' : Wd} {a a' : Lr} {r r' : Wd}, w = p ++ a :: r → w = p' ++ a' :: r' → a' ∉ p' → (∀ x, x ∈ w → x ∈ p ∨ x = a) → ¬ p.length < p'.length := fun {p p' a a' r r'} e e' n' c hl => by
    have hp : ∀ x, x ∈ p ∨ x = a → x ∈ p' := fun x hx => by
      have e2 : (p ++ [a]) = p'.take (p.length + 1) := by
        have h1 : w.take (p.length + 1) = p ++ [a] := by
          rw [e, show p ++ a :: r = (p ++ [a]) ++ r by simp]
          exact List.take_left' (by simp)
        have h2 : w.take (p.length + 1) = p'.take (p.length + 1) := by rw [e', List.take_append_of_le_length hl]
        rw [← h1, h2]
      have : x ∈ p ++ [a] := by simpa using hx
      rw [e2] at this
      exact List.mem_of_mem_take this
    exact n' (hp a' (c a' (by rw [e']; simp)))
  have l1 := key e e' n' c
  have l2 := key e' e n c'
  have hl : p.length = p'.length := by omega
  have := List.append_inj (e.symm.trans e') hl
  exact ⟨this.1, by have := this.2; injection this⟩
/-- the beginning, found letter by letter -/
def stepB (s : Wd × Wd × Lr) (x : Lr) : Wd × Wd × Lr := (s.1 ++ [x], if x ∈ s.1 then s.2 else (s.1, x))
def begF (w : Wd) : Wd × Lr := (w.foldl stepB ([], [], [])).2
theorem foldB_fst (w : Wd) : ∀ s, (w.foldl stepB s).1 = s.1 ++ w := by
  induction w with
  | nil => intro s; simp
  | cons x w ih => intro s; rw [List.foldl_cons, ih]; simp [stepB]
theorem begF_snoc (w : Wd) (x : Lr) : begF (w ++ [x]) = if x ∈ w then begF w else (w, x) := by
  unfold begF
  rw [List.foldl_append]
  simp only [List.foldl_cons, List.foldl_nil, stepB]
  rw [foldB_fst]
  simp
theorem beg_ex : ∀ {w : Wd}, w ≠ [] → Beg w (begF w).1 (begF w).2 := by
  have key : ∀ (n : Nat) (w : Wd), w.length = n → w ≠ [] → Beg w (begF w).1 (begF w).2 := by
    intro n
    induction n with
    | zero => intro w h1 h2; exact absurd (List.length_eq_zero_iff.mp h1) h2
    | succ n ih =>
      intro w h1 h2
      obtain ⟨u, x, rfl⟩ : ∃ u x, w = u ++ [x] := ⟨_, _, (List.dropLast_concat_getLast h2).symm⟩
      rw [begF_snoc]
      by_cases hx : x ∈ u
      · rw [if_pos hx]
        have hu : u ≠ [] := fun e => by rw [e] at hx; cases hx
        obtain ⟨⟨r, e⟩, n', c⟩ := ih u (by simpa using h1) hu
        have e3 : u ++ [x] = (begF u).1 ++ (begF u).2 :: (r ++ [x]) := (congrArg (· ++ [x]) e).trans (by simp)
        refine ⟨⟨r ++ [x], e3⟩, n', fun y hy => ?_⟩
        rcases List.mem_append.mp hy with hy | hy
        · exact c y hy
        · rw [List.mem_singleton.mp hy]; exact c x hx
      · rw [if_neg hx]
        refine ⟨⟨[], by simp⟩, hx, fun y hy => ?_⟩
        simpa using hy
  intro w h
  exact key _ w rfl h
theorem begF_nil : begF [] = ([], []) := rfl
theorem begF_eq {w p : Wd} {a : Lr} (h : Beg w p a) : begF w = (p, a) := by
  have hw : w ≠ [] := fun e => by obtain ⟨⟨r, e'⟩, _⟩ := h; rw [e] at e'; cases p <;> cases e'
  obtain ⟨h1, h2⟩ := (beg_ex hw).uniq h
  exact Prod.ext h1 h2
def endF (w : Wd) : Lr × Wd := ((begF w.reverse).2, (begF w.reverse).1.reverse)
abbrev bP (w : Wd) : Wd := (begF w).1
abbrev eS (w : Wd) : Wd := (endF w).2
/-- b, and the longest end that lacks it -/
def End (w : Wd) (b : Lr) (s : Wd) : Prop := (∃ r, w = r ++ b :: s) ∧ b ∉ s ∧ ∀ x, x ∈ w → x ∈ s ∨ x = b
theorem End.rev {w s : Wd} {b : Lr} (h : End w b s) : Beg w.reverse s.reverse b := by
  obtain ⟨⟨r, rfl⟩, n, c⟩ := h
  exact ⟨⟨r.reverse, by simp⟩, by simpa using n, fun x hx => by rw [List.mem_reverse] at hx ⊢; exact c x hx⟩
theorem endF_eq {w s : Wd} {b : Lr} (h : End w b s) : endF w = (b, s) := by
  unfold endF
  rw [begF_eq h.rev, List.reverse_reverse]
theorem end_ex {w : Wd} (h : w ≠ []) : End w (endF w).1 (endF w).2 := by
  obtain ⟨⟨r, e⟩, n, c⟩ := beg_ex (w := w.reverse) (by simpa using h)
  refine ⟨⟨r.reverse, ?_⟩, ?_, fun x hx => ?_⟩
  · have := congrArg List.reverse e
    rw [List.reverse_reverse] at this
    refine this.trans ?_
    simp [endF]
  · simpa [endF] using n
  · simpa [endF] using c x (by simpa using hx)
theorem endF_nil : endF [] = ([], []) := rfl
theorem bP_rev (w : Wd) : bP w.reverse = (eS w).reverse := by
  show (begF w.reverse).1 = (begF w.reverse).1.reverse.reverse
  rw [List.reverse_reverse]
theorem eS_rev (w : Wd) : eS w.reverse = (bP w).reverse := by
  show (begF w.reverse.reverse).1.reverse = (begF w).1.reverse
  rw [List.reverse_reverse]
/-! ### moves -/
def mv1 (p : Bool) (w : Wd) : Wd := if p = true then bP w else eS w
def mv : List Bool → Wd → Wd
  | [], w => w
  | p :: m, w => mv m (mv1 p w)
/-- band-alike -/
def Al (u v : Wd) : Prop := ∀ m, SameC (mv m u) (mv m v)
theorem Al.refl (u : Wd) : Al u u := fun _ => SameC.refl _
theorem Al.symm {u v : Wd} (h : Al u v) : Al v u := fun m => (h m).symm
theorem Al.trans {u v w : Wd} (h : Al u v) (k : Al v w) : Al u w := fun m => (h m).trans (k m)
theorem Al.c {u v : Wd} (h : Al u v) : SameC u v := h []
theorem Al.mv {u v : Wd} (h : Al u v) (p : Bool) : Al (mv1 p u) (mv1 p v) := fun m => h (p :: m)
theorem Al.of {u v : Wd} (h : SameC u v) (h1 : ∀ p, Al (mv1 p u) (mv1 p v)) : Al u v := fun m => match m with
  | [] => h
  | p :: m => h1 p m
theorem mv_nil : ∀ m, mv m [] = []
  | [] => rfl
  | p :: m => by
    show mv m (mv1 p []) = []
    rw [show mv1 p [] = [] by cases p <;> rfl]
    exact mv_nil m
theorem mv_rev (w : Wd) : ∀ m, mv m w.reverse = (mv (m.map not) w).reverse := by
  intro m
  induction m generalizing w with
  | nil => rfl
  | cons p m ih =>
    show mv m (mv1 p w.reverse) = (mv (m.map not) (mv1 (!p) w)).reverse
    rw [← ih]
    congr 1
    cases p
    · exact eS_rev w
    · exact bP_rev w
theorem Al.rev {u v : Wd} (h : Al u v) : Al u.reverse v.reverse := fun m x => by
  rw [mv_rev, mv_rev, List.mem_reverse, List.mem_reverse]
  exact h _ x
/-! ### beginnings and ends of words one behind the other -/
theorem Beg.more {w p y : Wd} {a : Lr} (h : Beg w p a) (hy : ∀ x, x ∈ y → x ∈ w) : Beg (w ++ y) p a := by
  obtain ⟨⟨r, e⟩, n, c⟩ := h
  refine ⟨⟨r ++ y, by rw [e]; simp⟩, n, fun x hx => ?_⟩
  rcases List.mem_append.mp hx with hx | hx
  · exact c x hx
  · exact c x (hy x hx)
theorem End.more {w s y : Wd} {b : Lr} (h : End w b s) (hy : ∀ x, x ∈ y → x ∈ w) : End (y ++ w) b s := by
  obtain ⟨⟨r, e⟩, n, c⟩ := h
  refine ⟨⟨y ++ r, by rw [e]; simp⟩, n, fun x hx => ?_⟩
  rcases List.mem_append.mp hx with hx | hx
  · exact c x (hy x hx)
  · exact c x hx
theorem bP_more {w y : Wd} (hw : w ≠ []) (hy : ∀ x, x ∈ y → x ∈ w) : begF (w ++ y) = begF w := begF_eq ((beg_ex hw).more hy)
theorem eS_more {w y : Wd} (hw : w ≠ []) (hy : ∀ x, x ∈ y → x ∈ w) : endF (y ++ w) = endF w := endF_eq ((end_ex hw).more hy)
/-- where the second word brings letters, the beginning ends in it -/
theorem bP_new : ∀ (y u : Wd), (∃ x, x ∈ y ∧ x ∉ u) → ∃ y1, ∀ v, SameC u v → bP (v ++ y) = v ++ y1 := by
  intro y
  have key : ∀ (n : Nat) (y u : Wd), y.length = n → (∃ x, x ∈ y ∧ x ∉ u) → ∃ y1, ∀ v, SameC u v → bP (v ++ y) = v ++ y1 := by
    intro n
    induction n with
    | zero =>
      intro y u h ⟨x, hx, _⟩
      rw [List.length_eq_zero_iff.mp h] at hx; cases hx
    | succ n ih =>
      intro y u h ⟨x, hx, hn⟩
      have hy : y ≠ [] := fun e => by rw [e] at hx; cases hx
      obtain ⟨z, c, rfl⟩ : ∃ z c, y = z ++ [c] := ⟨_, _, (List.dropLast_concat_getLast hy).symm⟩
      by_cases hc : c ∈ u ∨ c ∈ z
      · obtain ⟨y1, h1⟩ := ih z u (by simpa using h) (by
          rcases List.mem_append.mp hx with hx | hx
          · exact ⟨x, hx, hn⟩
          · rcases hc with hc | hc
            · rw [List.mem_singleton.mp hx] at hn; exact absurd hc hn
            · exact ⟨c, hc, by rw [List.mem_singleton.mp hx] at hn; exact hn⟩)
        refine ⟨y1, fun v hv => ?_⟩
        rw [← h1 v hv, ← List.append_assoc]
        show (begF (v ++ z ++ [c])).1 = _
        rw [begF_snoc, if_pos (by rw [List.mem_append]; exact hc.imp (hv c).mp id)]
      · refine ⟨z, fun v hv => ?_⟩
        rw [← List.append_assoc]
        show (begF (v ++ z ++ [c])).1 = _
        rw [begF_snoc, if_neg (by rw [List.mem_append]; exact fun k => hc (k.imp (hv c).mpr id))]
  exact fun u h => key _ y u rfl h
/-- what the first word leaves in the end of both -/
theorem cnt_lt {s w : Wd} {b : Lr} (hb : b ∉ s) (hw : b ∈ w) (h : ∀ x, x ∈ s → x ∈ w) : (dedT s).length < (dedT w).length := by
  have := List.Nodup.length_le_of_subset (l₁ := b :: dedT s) (l₂ := dedT w) (List.nodup_cons.mpr ⟨by simpa using hb, dedT_nodup s⟩) (fun x hx => by
    rcases List.mem_cons.mp hx with rfl | hx
    · simpa using hw
    · simpa using h x (by simpa using hx))
  simp at this
  omega
theorem End.mem {w s : Wd} {b : Lr} (h : End w b s) : b ∈ w ∧ ∀ x, x ∈ s → x ∈ w := by
  obtain ⟨⟨r, e⟩, _, _⟩ := h
  rw [e]
  exact ⟨by simp, fun x hx => by simp [hx]⟩
theorem Beg.mem {w p : Wd} {a : Lr} (h : Beg w p a) : a ∈ w ∧ ∀ x, x ∈ p → x ∈ w := by
  obtain ⟨⟨r, e⟩, _, _⟩ := h
  rw [e]
  exact ⟨by simp, fun x hx => by simp [hx]⟩
/-- alike words lose the same letter -/
theorem Al.lost {u v : Wd} (h : Al u v) (hu : u ≠ []) : (begF u).2 = (begF v).2 ∧ (endF u).1 = (endF v).1 := by
  have hv : v ≠ [] := fun e => hu (h.c.symm.nil e)
  constructor
  · have b1 := beg_ex hu
    have b2 := beg_ex hv
    have h1 : (begF u).2 ∈ v := (h.c _).mp b1.mem.1
    rcases b2.2.2 _ h1 with k | k
    · exact absurd (((h.mv true).c _).mpr k) b1.2.1
    · exact k
  · have b1 := end_ex hu
    have b2 := end_ex hv
    have h1 : (endF u).1 ∈ v := (h.c _).mp b1.mem.1
    rcases b2.2.2 _ h1 with k | k
    · exact absurd (((h.mv false).c _).mpr k) b1.2.1
    · exact k
theorem eS_new (y : Wd) : ∀ (n : Nat) (u : Wd), (dedT u).length = n → (∃ x, x ∈ u ∧ x ∉ y) → ∀ v, Al u v → ∃ u' v', eS (u ++ y) = u' ++ y ∧ eS (v ++ y) = v' ++ y ∧ Al u' v' := by
  intro n
  induction n using Nat.strongRecOn with
  | ind n ih =>
    intro u hn ⟨x, hx, hxy⟩ v hv
    have hu : u ≠ [] := fun e => by rw [e] at hx; cases hx
    have hv0 : v ≠ [] := fun e => hu (hv.c.symm.nil e)
    have e1 := end_ex hu
    have e2 := end_ex hv0
    have el := (hv.lost hu).2
    have as := hv.mv false
    rw [← el] at e2
    generalize (endF u).1 = b at e1 e2
    have as : Al (endF u).2 (endF v).2 := as
    generalize (endF u).2 = s at e1 as
    generalize (endF v).2 = t at e2 as
    by_cases hb : b ∈ y
    · have cover : ∀ {w s : Wd}, End w b s → (∃ r, w ++ y = r ++ (s ++ y) ∧ ∀ z, z ∈ r → z ∈ s ++ y) := fun {w s} e => by
        obtain ⟨⟨r, rfl⟩, n', c⟩ := e
        refine ⟨r ++ [b], by simp, fun z hz => ?_⟩
        rcases List.mem_append.mp hz with hz | hz
        · rcases c z (by simp [hz]) with k | k
          · simp [k]
          · simp [k, hb]
        · rw [List.mem_singleton.mp hz]; simp [hb]
      obtain ⟨r1, q1, k1⟩ := cover e1
      obtain ⟨r2, q2, k2⟩ := cover e2
      have hs : ∃ x, x ∈ s ∧ x ∉ y := by
        rcases e1.2.2 x hx with k | k
        · exact ⟨x, k, hxy⟩
        · rw [k] at hxy; exact absurd hb hxy
      obtain ⟨u', v', z1, z2, z3⟩ := ih _ (by rw [← hn]; exact cnt_lt e1.2.1 e1.mem.1 e1.mem.2) s rfl hs t as
      have ns : s ++ y ≠ [] := fun e => by rw [List.append_eq_nil_iff] at e; rw [e.2] at hb; cases hb
      have nt : t ++ y ≠ [] := fun e => by rw [List.append_eq_nil_iff] at e; rw [e.2] at hb; cases hb
      refine ⟨u', v', ?_, ?_, z3⟩
      · rw [q1]
        show (endF _).2 = _
        rw [eS_more ns k1]
        exact z1
      · rw [q2]
        show (endF _).2 = _
        rw [eS_more nt k2]
        exact z2
    · have fin : ∀ {w s : Wd}, End w b s → eS (w ++ y) = s ++ y := fun {w s} e => by
        obtain ⟨⟨r, rfl⟩, n', c⟩ := e
        show (endF _).2 = _
        rw [endF_eq (b := b) (s := s ++ y) ⟨⟨r, by simp⟩, by simp [n', hb], fun z hz => by
          rcases List.mem_append.mp hz with hz | hz
          · rcases c z hz with k | k
            · exact .inl (by simp [k])
            · exact .inr k
          · exact .inl (by simp [hz])⟩]
      exact ⟨s, t, fin e1, fin e2, as⟩
/-- alike words stay alike with the same word behind, ahead -/
theorem Al.behind_ : ∀ (m : List Bool) (u v y : Wd), Al u v → SameC (DL.mv m (u ++ y)) (DL.mv m (v ++ y)) := by
  intro m
  induction m with
  | nil =>
    intro u v y h x
    show x ∈ u ++ y ↔ x ∈ v ++ y
    rw [List.mem_append, List.mem_append, h.c x]
  | cons p m ih =>
    intro u v y h
    by_cases hu : u = []
    · subst hu
      rw [h.c.nil rfl]
      exact SameC.refl _
    have hv : v ≠ [] := fun e => hu (h.c.symm.nil e)
    cases p with
    | true =>
      show SameC (DL.mv m (bP (u ++ y))) (DL.mv m (bP (v ++ y)))
      by_cases hy : ∃ x, x ∈ y ∧ x ∉ u
      · obtain ⟨y1, h1⟩ := bP_new y u hy
        rw [h1 u (SameC.refl u), h1 v h.c]
        exact ih u v y1 h
      · have hy : ∀ x, x ∈ y → x ∈ u := fun x hx => Classical.byContradiction fun k => hy ⟨x, hx, k⟩
        unfold bP
        rw [bP_more hu hy, bP_more hv fun x hx => (h.c x).mp (hy x hx)]
        exact h (true :: m)
    | false =>
      show SameC (DL.mv m (eS (u ++ y))) (DL.mv m (eS (v ++ y)))
      by_cases hy : ∃ x, x ∈ u ∧ x ∉ y
      · obtain ⟨u', v', z1, z2, z3⟩ := eS_new y _ u rfl hy v h
        rw [z1, z2]
        exact ih u' v' y z3
      · have hy : ∀ x, x ∈ u → x ∈ y := fun x hx => Classical.byContradiction fun k => hy ⟨x, hx, k⟩
        have ny : y ≠ [] := fun e => by
          cases u with
          | nil => exact hu rfl
          | cons x u => have := hy x List.mem_cons_self; rw [e] at this; cases this
        unfold eS
        rw [eS_more ny hy, eS_more ny fun x hx => hy x ((h.c x).mpr hx)]
        exact SameC.refl _
theorem Al.behind {u v : Wd} (h : Al u v) (y : Wd) : Al (u ++ y) (v ++ y) := fun m => Al.behind_ m u v y h
theorem Al.ahead {u v : Wd} (h : Al u v) (x : Wd) : Al (x ++ u) (x ++ v) := by
  have := (h.rev.behind x.reverse).rev
  simpa using this
theorem Al.twice (u : Wd) : Al (u ++ u) u := by
  by_cases hu : u = []
  · subst hu; exact Al.refl _
  refine Al.of (fun x => by simp) fun p => ?_
  cases p with
  | true =>
    show Al (begF (u ++ u)).1 (begF u).1
    rw [bP_more hu fun x hx => hx]
    exact Al.refl _
  | false =>
    show Al (endF (u ++ u)).2 (endF u).2
    rw [eS_more hu fun x hx => hx]
    exact Al.refl _
theorem Al.between {x y z : Wd} (h : SameC x z) (hy : ∀ l, l ∈ y → l ∈ x) : Al (x ++ z) (x ++ y ++ z) := by
  by_cases hx : x = []
  · subst hx
    have : y = [] := by
      cases y with
      | nil => rfl
      | cons l y => exact absurd (hy l List.mem_cons_self) (by simp)
    subst this
    exact Al.refl _
  have hz : z ≠ [] := fun e => hx (h.symm.nil e)
  refine Al.of (fun l => ?_) fun p => ?_
  · simp only [List.mem_append]
    exact ⟨fun k => k.imp .inl id, fun k => k.elim (fun k => k.elim .inl fun k => .inl (hy l k)) .inr⟩
  cases p with
  | true =>
    show Al (begF (x ++ z)).1 (begF (x ++ y ++ z)).1
    rw [bP_more hx fun l hl => (h l).mpr hl, List.append_assoc, bP_more hx fun l hl => (List.mem_append.mp hl).elim (hy l) (h l).mpr]
    exact Al.refl _
  | false =>
    show Al (endF (x ++ z)).2 (endF (x ++ y ++ z)).2
    rw [eS_more hz fun l hl => (h l).mp hl, eS_more hz fun l hl => (List.mem_append.mp hl).elim (h l).mp fun k => (h l).mp (hy l k)]
    exact Al.refl _
/-! ### band forms -/
def mrgK (l r : Wd) : Nat → Wd
  | 0 => l ++ r
  | k + 1 => if l.drop (l.length - (k + 1)) = r.take (k + 1) then l ++ r.drop (k + 1) else mrgK l r k
def mergeW (l r : Wd) : Wd := mrgK l r (min l.length r.length)
theorem mrgK_ex (l r : Wd) : ∀ n, ∃ k, k ≤ n ∧ l.drop (l.length - k) = r.take k ∧ mrgK l r n = l ++ r.drop k
  | 0 => ⟨0, Nat.le_refl _, by simp, by simp [mrgK]⟩
  | n + 1 => by
    by_cases h : l.drop (l.length - (n + 1)) = r.take (n + 1)
    · exact ⟨n + 1, Nat.le_refl _, h, by simp [mrgK, h]⟩
    · obtain ⟨k, h1, h2, h3⟩ := mrgK_ex l r n
      exact ⟨k, by omega, h2, by simp [mrgK, h, h3]⟩
theorem mergeW_ex (l r : Wd) : ∃ q x, mergeW l r = l ++ x ∧ mergeW l r = q ++ r ∧ (∀ z, z ∈ x → z ∈ r) ∧ ∀ z, z ∈ q → z ∈ l := by
  obtain ⟨k, h1, h2, h3⟩ := mrgK_ex l r (min l.length r.length)
  refine ⟨l.take (l.length - k), r.drop k, h3, ?_, fun z hz => List.mem_of_mem_drop hz, fun z hz => List.mem_of_mem_take hz⟩
  unfold mergeW
  rw [h3]
  conv => lhs; rw [← List.take_append_drop (l.length - k) l, h2, List.append_assoc, List.take_append_drop]
theorem mergeW_mem {l r : Wd} {x : Lr} : x ∈ mergeW l r ↔ x ∈ l ∨ x ∈ r := by
  obtain ⟨q, z, e1, e2, h1, h2⟩ := mergeW_ex l r
  constructor
  · intro h
    rw [e1, List.mem_append] at h
    exact h.imp id (h1 x)
  · rintro (h | h)
    · rw [e1]; simp [h]
    · rw [e2]; simp [h]
def bandN : Nat → Wd → Wd
  | 0, w => []
  | n + 1, w => if (dedT w).length = 1 then [w.headD []] else mergeW (bandN n (begF w).1 ++ [(begF w).2]) ((endF w).1 :: bandN n (endF w).2)
theorem cnt_same {u v : Wd} (h : SameC u v) : (dedT u).length = (dedT v).length :=
  ((List.perm_ext_iff_of_nodup (dedT_nodup u) (dedT_nodup v)).mpr fun x => by simp [h x]).length_eq
theorem one_letter {w : Wd} (h : (dedT w).length = 1) : w ≠ [] ∧ ∀ x, x ∈ w → x = w.headD [] := by
  have hw : w ≠ [] := fun e => by rw [e] at h; cases h
  refine ⟨hw, fun x hx => ?_⟩
  obtain ⟨z, hz⟩ := List.length_eq_one_iff.mp h
  have m : ∀ y, y ∈ w → y = z := fun y hy => by
    have : y ∈ dedT w := by simpa using hy
    rw [hz] at this
    simpa using this
  rw [m x hx]
  cases w with
  | nil => exact absurd rfl hw
  | cons y w => exact (m y List.mem_cons_self).symm
theorem bandN_al : ∀ (n : Nat) {u v : Wd}, u ≠ [] → Al u v → bandN n u = bandN n v
  | 0, u, v, _, _ => rfl
  | n + 1, u, v, hu, h => by
    have hv : v ≠ [] := fun e => hu (h.c.symm.nil e)
    unfold bandN
    rw [cnt_same h.c]
    split
    · rename_i h1
      have o1 := one_letter (w := u) (by rw [cnt_same h.c]; exact h1)
      have o2 := one_letter h1
      have hm : u.headD [] ∈ u := by
        cases u with
        | nil => exact absurd rfl hu
        | cons x u => exact List.mem_cons_self
      rw [o2.2 _ ((h.c _).mp hm)]
    · rename_i h1
      have h1' : (dedT u).length ≠ 1 := by rw [cnt_same h.c]; exact h1
      have hp : bP u ≠ [] := fun e => by
        have b := beg_ex hu
        rw [show (begF u).1 = [] from e] at b
        apply h1'
        have s : SameC u [(begF u).2] := fun x => ⟨fun hx => by simpa using b.2.2 x hx, fun hx => by rw [List.mem_singleton.mp hx]; exact b.mem.1⟩
        rw [cnt_same s]; rfl
      have hs : eS u ≠ [] := fun e => by
        have b := end_ex hu
        rw [show (endF u).2 = [] from e] at b
        apply h1'
        have s : SameC u [(endF u).1] := fun x => ⟨fun hx => by simpa using b.2.2 x hx, fun hx => by rw [List.mem_singleton.mp hx]; exact b.mem.1⟩
        rw [cnt_same s]; rfl
      obtain ⟨l1, l2⟩ := h.lost hu
      rw [bandN_al n hp (h.mv true), bandN_al n hs (h.mv false), l1, l2]
      rfl
theorem cnt_pos {w : Wd} (h : w ≠ []) : 0 < (dedT w).length := by
  cases w with
  | nil => exact absurd rfl h
  | cons x w =>
    have : x ∈ dedT (x :: w) := by simp
    exact List.length_pos_of_mem this
theorem parts {w : Wd} (hw : w ≠ []) (h1 : (dedT w).length ≠ 1) : bP w ≠ [] ∧ eS w ≠ [] ∧ (dedT (bP w)).length < (dedT w).length ∧ (dedT (eS w)).length < (dedT w).length := by
  have b := beg_ex hw
  have e := end_ex hw
  refine ⟨fun z => ?_, fun z => ?_, cnt_lt b.2.1 b.mem.1 b.mem.2, cnt_lt e.2.1 e.mem.1 e.mem.2⟩
  · rw [show (begF w).1 = [] from z] at b
    apply h1
    have s : SameC w [(begF w).2] := fun x => ⟨fun hx => by simpa using b.2.2 x hx, fun hx => by rw [List.mem_singleton.mp hx]; exact b.mem.1⟩
    rw [cnt_same s]; rfl
  · rw [show (endF w).2 = [] from z] at e
    apply h1
    have s : SameC w [(endF w).1] := fun x => ⟨fun hx => by simpa using e.2.2 x hx, fun hx => by rw [List.mem_singleton.mp hx]; exact e.mem.1⟩
    rw [cnt_same s]; rfl
/-- a word is alike to its band form -/
theorem al_bandN : ∀ (n : Nat) {w : Wd}, w ≠ [] → (dedT w).length ≤ n → Al w (bandN n w)
  | 0, w, hw, h => absurd (cnt_pos hw) (by omega)
  | n + 1, w, hw, h => by
    unfold bandN
    split
    · rename_i h1
      have o := one_letter h1
      have s : SameC w [w.headD []] := fun x => ⟨fun hx => by simpa using o.2 x hx, fun hx => by
        rw [List.mem_singleton.mp hx]
        cases w with
        | nil => exact absurd rfl hw
        | cons x w => exact List.mem_cons_self⟩
      have bn : ∀ {v : Wd}, v ≠ [] → (dedT v).length = 1 → ∀ p, mv1 p v = [] := fun {v} hv hc p => by
        have small : ∀ {x : Wd}, (dedT x).length < (dedT v).length → x = [] := fun {x} hx => by
          cases x with
          | nil => rfl
          | cons a x => have := cnt_pos (w := a :: x) (by simp); omega
        cases p
        · exact small (cnt_lt (end_ex hv).2.1 (end_ex hv).mem.1 (end_ex hv).mem.2)
        · exact small (cnt_lt (beg_ex hv).2.1 (beg_ex hv).mem.1 (beg_ex hv).mem.2)
      refine Al.of s fun p => ?_
      rw [bn hw h1 p, bn (v := [w.headD []]) (by simp) rfl p]
      exact Al.refl _
    · rename_i h1
      obtain ⟨np, ns, lp, ls⟩ := parts hw h1
      have ap := al_bandN n np (by omega)
      have as := al_bandN n ns (by omega)
      have b := beg_ex hw
      have e := end_ex hw
      obtain ⟨q, x, e1, e2, k1, k2⟩ := mergeW_ex (bandN n (begF w).1 ++ [(begF w).2]) ((endF w).1 :: bandN n (endF w).2)
      have cl : ∀ z, z ∈ bandN n (begF w).1 ++ [(begF w).2] ↔ z ∈ w := fun z => by
        rw [List.mem_append, List.mem_singleton, ← ap.c z]
        exact ⟨fun k => k.elim (b.mem.2 z) fun k => k ▸ b.mem.1, b.2.2 z⟩
      have cr : ∀ z, z ∈ (endF w).1 :: bandN n (endF w).2 ↔ z ∈ w := fun z => by
        rw [List.mem_cons, ← as.c z]
        exact ⟨fun k => k.elim (fun k => k ▸ e.mem.1) (e.mem.2 z), fun k => (e.2.2 z k).symm⟩
      have B : Beg (mergeW (bandN n (begF w).1 ++ [(begF w).2]) ((endF w).1 :: bandN n (endF w).2)) (bandN n (begF w).1) (begF w).2 := by
        refine ⟨⟨x, by rw [e1]; simp⟩, fun k => b.2.1 ((ap.c _).mpr k), fun z hz => ?_⟩
        rw [mergeW_mem] at hz
        have hz : z ∈ w := hz.elim (cl z).mp (cr z).mp
        have := (cl z).mpr hz
        simpa using this
      have E : End (mergeW (bandN n (begF w).1 ++ [(begF w).2]) ((endF w).1 :: bandN n (endF w).2)) (endF w).1 (bandN n (endF w).2) := by
        refine ⟨⟨q, e2⟩, fun k => e.2.1 ((as.c _).mpr k), fun z hz => ?_⟩
        rw [mergeW_mem] at hz
        have hz : z ∈ w := hz.elim (cl z).mp (cr z).mp
        exact (List.mem_cons.mp ((cr z).mpr hz)).symm
      refine Al.of (fun z => ?_) fun p => ?_
      · rw [mergeW_mem, cl, cr]; simp
      · cases p
        · show Al (endF w).2 (endF _).2
          rw [endF_eq E]
          exact as
        · show Al (begF w).1 (begF _).1
          rw [begF_eq B]
          exact ap
theorem mrgK_len (l r : Wd) : ∀ n, (mrgK l r n).length ≤ l.length + r.length
  | 0 => by simp [mrgK]
  | n + 1 => by
    unfold mrgK
    split
    · rw [List.length_append, List.length_drop]; omega
    · exact mrgK_len l r n
theorem bandN_len : ∀ (n : Nat) (w : Wd), (bandN n w).length + 2 ≤ 2 ^ (n + 1)
  | 0, w => by simp [bandN]
  | n + 1, w => by
    have h1 := bandN_len n (begF w).1
    have h2 := bandN_len n (endF w).2
    have h3 : 2 ^ (n + 1 + 1) = 2 * 2 ^ (n + 1) := by rw [Nat.pow_succ]; omega
    unfold bandN
    split
    · have h4 : 2 ^ (n + 1) = 2 * 2 ^ n := by rw [Nat.pow_succ]; omega
      have h5 : 0 < 2 ^ n := Nat.two_pow_pos n
      rw [List.length_singleton]
      omega
    · have h4 := mrgK_len (bandN n (begF w).1 ++ [(begF w).2]) ((endF w).1 :: bandN n (endF w).2) (min (bandN n (begF w).1 ++ [(begF w).2]).length ((endF w).1 :: bandN n (endF w).2).length)
      unfold mergeW
      simp only [List.length_append, List.length_cons, List.length_nil] at h4
      simp only [List.length_append, List.length_cons, List.length_nil] at *
      omega
theorem bandN_ne {n : Nat} {w : Wd} (hw : w ≠ []) (h : (dedT w).length ≤ n) : bandN n w ≠ [] := fun e => hw ((al_bandN n hw h).c.symm.nil e)
theorem bandN_more : ∀ (n k : Nat) {w : Wd}, w ≠ [] → (dedT w).length ≤ n → bandN (n + k) w = bandN n w
  | 0, k, w, hw, h => absurd (cnt_pos hw) (by omega)
  | n + 1, k, w, hw, h => by
    rw [show n + 1 + k = (n + k) + 1 by omega]
    unfold bandN
    split
    · rfl
    · rename_i h1
      obtain ⟨np, ns, lp, ls⟩ := parts hw h1
      rw [bandN_more n k np (by omega), bandN_more n k ns (by omega)]
/-- the band form -/
def bandW (w : Wd) : Wd := bandN (dedT w).length w
theorem bandN_W {n : Nat} {w : Wd} (hw : w ≠ []) (h : (dedT w).length ≤ n) : bandN n w = bandW w := by
  obtain ⟨k, rfl⟩ : ∃ k, n = (dedT w).length + k := ⟨n - (dedT w).length, by omega⟩
  exact bandN_more _ k hw (Nat.le_refl _)
theorem al_band {w : Wd} (hw : w ≠ []) : Al w (bandW w) := al_bandN _ hw (Nat.le_refl _)
theorem band_al {u v : Wd} (hu : u ≠ []) (h : Al u v) : bandW u = bandW v := by
  unfold bandW
  rw [cnt_same h.c]
  exact bandN_al _ hu h
theorem band_iff {u v : Wd} (hu : u ≠ []) (hv : v ≠ []) : bandW u = bandW v ↔ Al u v := by
  refine ⟨fun h => ?_, band_al hu⟩
  have := (al_band hv).symm
  rw [← h] at this
  exact (al_band hu).trans this
theorem band_ne {w : Wd} (hw : w ≠ []) : bandW w ≠ [] := bandN_ne hw (Nat.le_refl _)
theorem band_band {w : Wd} (hw : w ≠ []) : bandW (bandW w) = bandW w := (band_al hw (al_band hw)).symm
theorem bandW_step {w : Wd} (hw : w ≠ []) (h1 : (dedT w).length ≠ 1) : bandW w = mergeW (bandW (bP w) ++ [(begF w).2]) ((endF w).1 :: bandW (eS w)) := by
  obtain ⟨np, ns, lp, ls⟩ := parts hw h1
  have hc := cnt_pos hw
  obtain ⟨n, hn⟩ : ∃ n, (dedT w).length = n + 1 := ⟨(dedT w).length - 1, by omega⟩
  conv => lhs; unfold bandW
  rw [hn]
  unfold bandN
  rw [if_neg h1, bandN_W np (by omega), bandN_W ns (by omega)]
end DL

/-! DL: running dicts, sets, words. -/
namespace DL
open PySem PySem.Spec L2
open PyProof.Rows hiding St
section
variable {sd : SD} {M M1 : MS} {d e v : D} {ds es : List D} {m mo mi : ME} {neg : Bool}
def dputK1 (mo mi : ME) (sd : SD) : D → MS → SRes := fun v M1 => SRes.ofE (mo sd M1) sd fun o M2 => SRes.ofE (mi sd M2) sd fun i M3 => match dputM M3 o i v with
  | some M4 => .nx sd M4
  | none => .stuck
def dputK2 (mi : ME) (sd : SD) (v : D) : D → MS → SRes := fun o M2 => SRes.ofE (mi sd M2) sd fun i M3 => match dputM M3 o i v with
  | some M4 => .nx sd M4
  | none => .stuck
def dputK3 (sd : SD) (v o : D) : D → MS → SRes := fun i M3 => match dputM M3 o i v with
  | some M4 => .nx sd M4
  | none => .stuck
@[simp] theorem dputS_ap : dputS mo mi m sd M = SRes.ofE (m sd M) sd (dputK1 mo mi sd) := rfl
@[simp] theorem dputK1_ap : dputK1 mo mi sd v M = SRes.ofE (mo sd M) sd (dputK2 mi sd v) := rfl
@[simp] theorem dputK2_ap : dputK2 mi sd v d M = SRes.ofE (mi sd M) sd (dputK3 sd v d) := rfl
theorem dputK3_cell {n : Nat} {ks ks' ds' : List D} (hm : M[n]? = some (.dic ks ds)) (h : dputD ks ds e v = some (ks', ds')) : dputK3 sd v (.cell n) e M = .nx sd (M.set n (.dic ks' ds')) := by
  unfold dputK3 dputM
  simp [hm, h]
@[simp] theorem dicE_ap : dicE sd M = .ok (.cell M.length) (M ++ [.dic [] []]) := rfl
theorem lenX_dic {n : Nat} {ks : List D} (hm : M[n]? = some (.dic ks ds)) : lenX [.cell n] M = .ok (.int ks.length) M := by
  unfold lenX
  simp [hm]
/-- d[x] = v for a text x, where all keys are texts -/
theorem dputD_str {xs : List (List Nat)} {x : List Nat} {k : Nat} (hk : k = xs.length) (hl : xs.length < 1000000) : dputD (xs.map D.str) (List.replicate k (.bl true)) (.str x) (.bl true) = some ((insT xs x).map D.str, List.replicate (insT xs x).length (.bl true)) := by
  subst hk
  have any : (xs.map D.str).any (isKey (.inr (tx x))) = decide (x ∈ xs) := by
    rw [List.any_map, Bool.eq_iff_iff, List.any_eq_true, decide_eq_true_eq]
    constructor
    · rintro ⟨y, hy, h⟩
      have h : (some (Sum.inr (tx y) : Key)) = some (.inr (tx x)) := of_decide_eq_true h
      injection h with h
      injection h with h
      rw [← tx_inj.mp h]
      exact hy
    · intro h
      exact ⟨x, h, decide_eq_true rfl⟩
  have zw : ∀ ys : List (List Nat), List.zipWith (fun d v => if isKey (.inr (tx x)) d = true then D.bl true else v) (ys.map D.str) (List.replicate ys.length (.bl true)) = List.replicate ys.length (.bl true) := by
    intro ys
    induction ys with
    | nil => rfl
    | cons y ys ih =>
      rw [List.map_cons, List.length_cons, List.replicate_succ, List.zipWith_cons_cons, ih]
      simp
  unfold dputD
  show (if (xs.map D.str).length < 1000000 then _ else none) = _
  rw [if_pos (by simpa using hl), any]
  unfold insT
  by_cases h : x ∈ xs
  · rw [if_pos (by simpa using h), if_pos h, zw]
  · rw [if_neg (by simpa using h), if_neg h]
    simp [List.replicate_succ']
def rv1K : D → MS → Res ItD := fun d M1 => match d with
  | .int j => if -1000000000 ≤ j ∧ j ≤ 1000000000 then .ok (intsI (revN j.toNat)) M1 else .stuck
  | _ => .stuck
@[simp] theorem rev1I_ap : rev1I m sd M = (m sd M).bind rv1K := rfl
theorem rv1K_ap {j : Nat} (h : j ≤ 1000000000) : rv1K (.int (j : Int)) M = .ok (intsI ((List.range j).reverse.map fun (k : Nat) => (k : Int))) M := by
  rw [← revN_eq]
  unfold rv1K
  dsimp only
  rw [if_pos (by omega)]
  simp
def enK : D → MS → Res ItD := fun d M1 => match seqOf M1 d with
  | some ds => .ok ⟨enumD 0 ds, lchk M1 d⟩ M1
  | none => .stuck
@[simp] theorem enumX_ap : enumX m sd M = (m sd M).bind enK := rfl
theorem lchk_lst : lchk M (.lst ds) M1 := rfl
theorem enK_lst : enK (.lst ds) M = .ok ⟨enumD 0 ds, lchk M (.lst ds)⟩ M := rfl
def unpK (g : MG) (sd : SD) : D → MS → SRes := fun d M1 => match g d sd with
  | some sd1 => .nx sd1 M1
  | none => .stuck
@[simp] theorem unpS_ap {g : MG} : unpS g m sd M = SRes.ofE (m sd M) sd (unpK g sd) := rfl
theorem unpK_ap {g : MG} {sd1 : SD} (h : g d sd = some sd1) : unpK g sd d M = .nx sd1 M := by
  unfold unpK
  rw [h]
@[simp] theorem listF_lst : listF [.lst ds] M = .ok (.lst ds) M := rfl
@[simp] theorem listF_tup : listF [.tup ds] M = .ok (.lst ds) M := rfl
/-! ### words -/
abbrev wD (w : Wd) : D := .lst (w.map D.str)
theorem sts_wD {w : Wd} : (lst1 [wD w] M).bind stsOf = some w := by simp [lst1, isTup]
theorem setR_w {w : Wd} (h : m sd M = .ok (wD w) M1) (hl : w.length < 4000) : setR m sd M = .ok (dedT w) M1 := setR_run h rfl rfl hl
abbrev okW (w : Wd) : Prop := ∀ x, x ∈ w → okC x
theorem eqvDs_strs : ∀ {xs ys : Wd}, eqvDs (xs.map D.str) (ys.map D.str) = decide (xs = ys)
  | [], [] => by simp [eqvDs_nil]
  | [], y :: ys => by simp [eqvDs_nc]
  | x :: xs, [] => by simp [eqvDs_cn]
  | x :: xs, y :: ys => by
    rw [List.map_cons, List.map_cons, eqvDs_cons, eqvDs_strs, eqvD_str, Bool.eq_iff_iff]
    simp
theorem plW {w : Wd} {n : Nat} (h : okW w) : plN (n + 1) (wD w) := by
  rw [plN_lst]
  exact plNs_map fun x hx => by rw [plN_str]; exact h x hx
theorem eqD_w {u w : Wd} (hu : okW u) (hw : okW w) : eqD neg (wD u) (wD w) M = .ok (.bl (decide (u = w) != neg)) M := by
  rw [eqD_pl (plW hu) (plW hw), eqvD_lst, eqvDs_strs]
theorem addD_w {u w : Wd} (h : u.length + w.length ≤ 1000000) : addD (wD u) (wD w) M = .ok (wD (u ++ w)) M := by
  rw [addD_lst (by simpa using h), ← List.map_append]
theorem sl_to {w : Wd} {k : Nat} : sliceD (wD w) none (some (k : Int)) M = .ok (wD (w.take k)) M := by
  rw [sliceD_lst, cutL_to, ← List.map_take]
theorem sl_from {w : Wd} {k : Nat} : sliceD (wD w) (some (k : Int)) none M = .ok (wD (w.drop k)) M := by
  rw [sliceD_lst, cutL_from, ← List.map_drop]
theorem rev_w {w : Wd} {sd : SD} {M1 : MS} (h : m sd M = .ok (wD w) M1) : revAE m sd M = .ok (wD w.reverse) M1 := by
  rw [revE_ap, h, Res.bind_ok]
  simp [isTup]
/-- a def whose new places are not in what it gives -/
theorem clF_ok {F : FM} {t : MS} (h : F ds M = .ok d (M ++ t)) (hd : clo M.length (M ++ t) d = some e) : clF F ds M = .ok e M := by
  unfold clF
  rw [h]
  unfold closeR
  dsimp only
  rw [if_pos (.inl (by simp)), hd]
  simp
theorem clos_strs {n : Nat} : ∀ (xs : Wd), clos n M (xs.map D.str) = some (xs.map D.str)
  | [] => rfl
  | x :: xs => by
    rw [List.map_cons]
    unfold clos
    rw [clos_strs xs]
    rfl
theorem clo_w {n : Nat} {w : Wd} : clo n M (wD w) = some (wD w) := by
  show (clos n M (w.map D.str)).map D.lst = _
  rw [clos_strs]
  rfl
theorem ded_le {u w : Wd} (h : ∀ x, x ∈ u → x ∈ w) : (dedT u).length ≤ (dedT w).length :=
  List.Nodup.length_le_of_subset (dedT_nodup u) fun x hx => by simpa using h x (by simpa using hx)
/-- what the loop over the word finds first -/
theorem beg_at {w : Wd} {i : Nat} (hi : i < w.length) (h1 : (dedT (w.take i)).length < (dedT w).length) (h2 : (dedT (w.take (i + 1))).length = (dedT w).length) : begF w = (w.take i, w[i]) := by
  have e : w = w.take i ++ w[i] :: w.drop (i + 1) := by rw [← List.drop_eq_getElem_cons hi, List.take_append_drop]
  have e1 : w.take (i + 1) = w.take i ++ [w[i]] := (List.take_append_getElem hi).symm
  refine begF_eq ⟨⟨_, e⟩, fun hm => ?_, fun x hx => ?_⟩
  · have : SameC (w.take (i + 1)) (w.take i) := fun x => by
      rw [e1, List.mem_append, List.mem_singleton]
      exact ⟨fun k => k.elim id fun k => k ▸ hm, .inl⟩
    rw [cnt_same this] at h2
    omega
  · have hs : sameT (dedT (w.take (i + 1))) (dedT w) = true := by
      unfold sameT
      rw [decide_eq_true h2, Bool.true_and, List.all_eq_true]
      intro y hy
      simp only [mem_dedT] at hy
      simpa using List.mem_of_mem_take hy
    have := (sameT_ded.mp hs x).mpr hx
    rw [e1, List.mem_append, List.mem_singleton] at this
    exact this
end
end DL

/-! DL: comprehensions with two for clauses. -/
namespace DL
open PySem PySem.Spec L2
open PyProof.Rows hiding St
open Classical in
noncomputable def lc2Go (chk : MS → Prop) (g : MG) (tt : MB) (mi1 : MI) (g1 : MG) (tt1 : MB) (te : ME) (vs1 : List Nat) (w : SD) : List D → List D → MS → Res (List D)
  | [], acc, M => if chk M then .ok acc M else .stuck
  | d :: r, acc, M => if chk M then (match g d w with
    | none => .stuck
    | some sd1 => (tt sd1 M).ne.bind fun b M1 => if b = true then (mi1 sd1 M1).ne.bind fun it1 M2 => (lcGo it1.chk g1 tt1 te (wipeD sd1 vs1) it1.ds acc M2).ne.bind fun acc' M3 => lc2Go chk g tt mi1 g1 tt1 te vs1 w r acc' M3 else lc2Go chk g tt mi1 g1 tt1 te vs1 w r acc M1) else .stuck
noncomputable def lc2E (mi : MI) (g : MG) (tt : MB) (mi1 : MI) (g1 : MG) (tt1 : MB) (te : ME) (vs vs1 : List Nat) : ME := fun sd M => (mi sd M).bind fun it M1 => (lc2Go it.chk g tt mi1 g1 tt1 te vs1 (wipeD sd vs) it.ds [] M1).ne.bind fun ds M2 => .ok (.lst ds) M2
theorem PresW.trans {r0 r1 r2 : Pl} {H0 H1 H2 : Hp} (p : PresW r0 H0 r1 H1) (q : PresW r1 H1 r2 H2) : PresW r0 H0 r2 H2 := by
  refine ⟨?_, fun a o h hn => ?_, fun a h => ?_⟩
  · obtain ⟨t, e⟩ := p.pre
    obtain ⟨u, e'⟩ := q.pre
    exact ⟨t ++ u, by rw [e', e, List.append_assoc]⟩
  · have h1 := p.keep a o h hn
    exact q.keep a o h1 (p.out hn (by rw [h]; simp))
  · rcases q.new a h with z | z
    · exact p.new a z
    · by_cases hm : a ∈ r0.all
      · exact .inl hm
      · refine .inr ?_
        cases e : H0 a with
        | none => rfl
        | some o => rw [p.keep a o e hm] at z; cases z
theorem PresW.refl (ro : Pl) (H : Hp) : PresW ro H ro H := ⟨⟨[], by simp⟩, fun _ _ h _ => h, fun _ h => .inl h⟩
theorem PresW.put {ro : Pl} {H : Hp} {p : Addr} {o : HO} (h : p ∈ ro.hid) : PresW ro H ro (upd H p o) := ⟨⟨[], by simp⟩, fun a u e n => by
  rw [upd_ne (fun z : a = p => n (List.mem_append_right _ (by rw [z]; exact h)))]; exact e, fun _ h => .inl h⟩
theorem RepSt.wiped {K : PySem.W.Frag} {mg : Str → Option Value} {ro : Pl} {H : Hp} {sd : SD} {st : St} (h : RepSt K mg ro H sd st) (vs : List Nat) : RepSt K mg ro H (wipeD sd vs) (L2.wipe st vs) := h.wipe vs
section
variable {X : Cx} {W : WX}
/-- one run of the outer block, from the heap H1 on -/
theorem lc2_turns {K : PySem.W.Frag} {mg : Str → Option Value} {it : ItD} {J : It} {ro1 : Pl} {H1 : Hp} {M1 : MS} {sd : SD} {st : St} {g g1 : MG} {ix ix1 vs vs1 : List Nat} {tt tt1 : MB} {mi1 : MI} {te : ME} {Q : VK} (hix : ∀ i, i ∈ ix → i ∈ vs) (hix1 : ∀ i, i ∈ ix1 → i ∈ vs1)
    (R1 : RelS K mg ro1 M1 H1) (S1 : RepSt K mg ro1 H1 sd st) (J1 : IterOk K mg ro1 H1 it J) {p : Addr} (hp : H1 p = none)
    (fin : ∃ ds M2, lc2Go it.chk g tt mi1 g1 tt1 te vs1 (wipeD sd vs) it.ds [] M1 = .ok ds M2 ∧ ∀ ro' H' us, RelS K mg ro' M2 H' → Within ro1 H1 p ro' H' → H' p = some (.lst us) → Reps K mg ro' H' ds us → Q (.ref p) H') :
    ∃ Wv : Nat → Nat → Hp → Prop, (∃ m, Wv 0 m (upd H1 p (.lst []))) ∧ ∀ i m H, Wv i m H →
      (J.stop i H ∧ Q (.ref p) H) ∨ (J.go i H ∧ ∃ Nx : Hp → Prop, (∀ H', Nx H' → ∃ m', m' < m ∧ Wv (i + 1) m' H') ∧ ∀ x H', J.yld i H x H' → liftG K mg g ix x (wipe st vs) H' fun s2 H2 => wipe s2 vs = wipe st vs ∧ liftB K mg W0 tt s2 H2 fun b H3 =>
        if b = true then liftI K mg W0 mi1 s2 H3 fun K1 H4 => ∃ W1 : Nat → Nat → Hp → Prop, (∃ m, W1 0 m H4) ∧ ∀ j k H, W1 j k H →
          (K1.stop j H ∧ Nx H) ∨ (K1.go j H ∧ ∃ Nx1 : Hp → Prop, (∀ H', Nx1 H' → ∃ k', k' < k ∧ W1 (j + 1) k' H') ∧ ∀ x H', K1.yld j H x H' → liftG K mg g1 ix1 x (wipe s2 vs1) H' fun s3 H5 => wipe s3 vs1 = wipe s2 vs1 ∧ liftB K mg W0 tt1 s3 H5 fun b H6 =>
            if b = true then liftE K mg W0 te s3 H6 fun y H7 => ∃ acc, H7 p = some (.lst acc) ∧ acc.length < sizeLine ∧ Nx1 (upd H7 p (.lst (acc ++ [y]))) else Nx1 H6)
        else Nx H3) := by
  obtain ⟨ds, M2, hrun, fin⟩ := fin
  refine ⟨fun i m H' => m = it.ds.length - i ∧ i ≤ it.ds.length ∧ ∃ ro' M' acc us, RelS K mg ro' M' H' ∧ Within ro1 H1 p ro' H' ∧ H' p = some (.lst us) ∧ Reps K mg ro' H' acc us ∧ lc2Go it.chk g tt mi1 g1 tt1 te vs1 (wipeD sd vs) (it.ds.drop i) acc M' = .ok ds M2,
    ⟨_, rfl, Nat.zero_le _, ro1.hide p, M1, [], [], R1.hide hp, ⟨rfl, ⟨[], by simp⟩, fun a o h _ => upd_grow hp a o h, fun a h => .inl h⟩, upd_same, rfl, hrun⟩, ?_⟩
  rintro i m H' ⟨rfl, hle, ro', M', acc, us, R', Wi, hpl, ra, hr⟩
  have mem : p ∈ ro'.hid := by rw [Wi.hid]; exact List.mem_cons_self
  by_cases hlt : i < it.ds.length
  · have hd : it.ds.drop i = it.ds[i] :: it.ds.drop (i + 1) := List.drop_eq_getElem_cons hlt
    rw [hd] at hr
    unfold lc2Go at hr
    by_cases hc : it.chk M'
    · rw [if_pos hc] at hr
      obtain ⟨_, hJ⟩ := J1 ro' H' M' R' (Wi.w hp) hc
      obtain ⟨hgo, hy⟩ := hJ i _ (List.getElem?_eq_getElem hlt)
      refine .inr ⟨hgo, fun H2 => ∃ ro2 M3 acc us, RelS K mg ro2 M3 H2 ∧ Within ro1 H1 p ro2 H2 ∧ H2 p = some (.lst us) ∧ Reps K mg ro2 H2 acc us ∧ lc2Go it.chk g tt mi1 g1 tt1 te vs1 (wipeD sd vs) (it.ds.drop (i + 1)) acc M3 = .ok ds M2,
        fun H2 ⟨ro2, M3, acc, us, a, b, c, d, e⟩ => ⟨it.ds.length - (i + 1), by omega, rfl, hlt, ro2, M3, acc, us, a, b, c, d, e⟩, fun x H'' y => ?_⟩
      obtain ⟨hgrow, hrep⟩ := hy x H'' y
      obtain ⟨R'', P''⟩ := R'.grow hgrow
      cases hgd : g it.ds[i] (wipeD sd vs) with
      | none => rw [hgd] at hr; cases hr
      | some sd1 =>
        rw [hgd] at hr
        dsimp only at hr
        have S'' : RepSt K mg ro' H'' (wipeD sd vs) (wipe st vs) := ((S1.monoW (Wi.w hp)).mono P'').wipe vs
        refine ⟨ro', wipeD sd vs, M', _, R'', S'', hrep, sd1, hgd, fun st1 Sd1 hw => ⟨by rw [hw vs hix]; exact (List.ext_getElem? fun j => by rw [wipe_get, wipe_get, wipe_length]; split <;> rfl), ?_⟩⟩
        refine ⟨ro', sd1, M', R'', Sd1, ?_⟩
        cases ht : tt sd1 M' with
        | exc C ns ds M3 => rw [ht] at hr; cases hr
        | stuck => rw [ht] at hr; cases hr
        | ok b M3 =>
          rw [ht, Res.ne_ok, Res.bind_ok] at hr
          rintro ro3 H3 b' R3 P3 rfl
          have W3 := (Wi.step P'').step P3
          have ra3 := Reps.mono P3 _ _ (Reps.mono P'' _ _ ra)
          have hp3 : H3 p = some (.lst us) := P3.keep p _ (P''.keep p _ hpl fun z => R'.dis p z mem) fun z => R''.dis p z mem
          cases b' with
          | false =>
            rw [if_neg Bool.false_ne_true] at hr ⊢
            exact ⟨ro3, M3, acc, us, R3, W3, hp3, ra3, hr⟩
          | true =>
            rw [if_pos rfl] at hr ⊢
            refine ⟨ro3, sd1, M3, R3, Sd1.mono P3, ?_⟩
            cases hmi : mi1 sd1 M3 with
            | exc C ns ds M4 => rw [hmi] at hr; cases hr
            | stuck => rw [hmi] at hr; cases hr
            | ok it1 M4 =>
              rw [hmi, Res.ne_ok, Res.bind_ok] at hr
              rintro ro4 H4 K1 R4 P4 I4
              have mem3 : p ∈ ro3.hid := by rw [P3.hid]; exact mem
              have mem4 : p ∈ ro4.hid := by rw [P4.hid]; exact mem3
              have W4 := W3.step P4
              have ra4 := Reps.mono P4 _ _ ra3
              have hp4 : H4 p = some (.lst us) := P4.keep p _ hp3 fun z => R3.dis p z mem3
              have Sd4 := (Sd1.mono P3).mono P4
              cases hlc : lcGo it1.chk g1 tt1 te (wipeD sd1 vs1) it1.ds acc M4 with
              | exc C ns ds M5 => rw [hlc] at hr; cases hr
              | stuck => rw [hlc] at hr; cases hr
              | ok acc5 M5 =>
                rw [hlc, Res.ne_ok, Res.bind_ok] at hr
                refine ⟨fun j k H => k = it1.ds.length - j ∧ j ≤ it1.ds.length ∧ ∃ ro5 M6 acc6 us6, RelS K mg ro5 M6 H ∧ Within ro1 H1 p ro5 H ∧ PresW ro4 H4 ro5 H ∧ H p = some (.lst us6) ∧ Reps K mg ro5 H acc6 us6 ∧ lcGo it1.chk g1 tt1 te (wipeD sd1 vs1) (it1.ds.drop j) acc6 M6 = .ok acc5 M5,
                  ⟨_, rfl, Nat.zero_le _, ro4, M4, acc, us, R4, W4, PresW.refl _ _, hp4, ra4, hlc⟩, ?_⟩
                rintro j k H5 ⟨rfl, hle1, ro5, M6, acc6, us6, R5, W5, PW5, hp5, ra5, hr5⟩
                have mem5 : p ∈ ro5.hid := by rw [W5.hid]; exact List.mem_cons_self
                by_cases hlt1 : j < it1.ds.length
                · have hd1 : it1.ds.drop j = it1.ds[j] :: it1.ds.drop (j + 1) := List.drop_eq_getElem_cons hlt1
                  rw [hd1] at hr5
                  unfold lcGo at hr5
                  by_cases hc1 : it1.chk M6
                  · rw [if_pos hc1] at hr5
                    obtain ⟨_, hJ1⟩ := I4 ro5 H5 M6 R5 PW5 hc1
                    obtain ⟨hgo1, hy1⟩ := hJ1 j _ (List.getElem?_eq_getElem hlt1)
                    refine .inr ⟨hgo1, fun H => ∃ ro6 M7 acc7 us7, RelS K mg ro6 M7 H ∧ Within ro1 H1 p ro6 H ∧ PresW ro4 H4 ro6 H ∧ H p = some (.lst us7) ∧ Reps K mg ro6 H acc7 us7 ∧ lcGo it1.chk g1 tt1 te (wipeD sd1 vs1) (it1.ds.drop (j + 1)) acc7 M7 = .ok acc5 M5,
                      fun H ⟨ro6, M7, acc7, us7, a, b, c, d, e, f⟩ => ⟨it1.ds.length - (j + 1), by omega, rfl, hlt1, ro6, M7, acc7, us7, a, b, c, d, e, f⟩, fun x H6 y => ?_⟩
                    obtain ⟨hgrow1, hrep1⟩ := hy1 x H6 y
                    obtain ⟨R6, P6⟩ := R5.grow hgrow1
                    cases hgd1 : g1 it1.ds[j] (wipeD sd1 vs1) with
                    | none => rw [hgd1] at hr5; cases hr5
                    | some sd2 =>
                      rw [hgd1] at hr5
                      dsimp only at hr5
                      have S6 : RepSt K mg ro5 H6 (wipeD sd1 vs1) (wipe st1 vs1) := ((Sd4.monoW PW5).mono P6).wipe vs1
                      refine ⟨ro5, wipeD sd1 vs1, M6, _, R6, S6, hrep1, sd2, hgd1, fun st2 Sd2 hw2 => ⟨by rw [hw2 vs1 hix1]; exact (List.ext_getElem? fun j => by rw [wipe_get, wipe_get, wipe_length]; split <;> rfl), ?_⟩⟩
                      refine ⟨ro5, sd2, M6, R6, Sd2, ?_⟩
                      cases ht1 : tt1 sd2 M6 with
                      | exc C ns ds M7 => rw [ht1] at hr5; cases hr5
                      | stuck => rw [ht1] at hr5; cases hr5
                      | ok b1 M7 =>
                        rw [ht1, Res.ne_ok, Res.bind_ok] at hr5
                        rintro ro7 H7 b2 R7 P7 rfl
                        have W7 := (W5.step P6).step P7
                        have PW7 := (PW5.trans P6.w).trans P7.w
                        have ra7 := Reps.mono P7 _ _ (Reps.mono P6 _ _ ra5)
                        have hp7 : H7 p = some (.lst us6) := P7.keep p _ (P6.keep p _ hp5 fun z => R5.dis p z mem5) fun z => R6.dis p z mem5
                        cases b2 with
                        | false =>
                          rw [if_neg Bool.false_ne_true] at hr5 ⊢
                          exact ⟨ro7, M7, acc6, us6, R7, W7, PW7, hp7, ra7, hr5⟩
                        | true =>
                          rw [if_pos rfl] at hr5 ⊢
                          refine ⟨ro7, sd2, M7, R7, Sd2.mono P7, ?_⟩
                          cases hte : te sd2 M7 with
                          | exc C ns ds M8 => rw [hte] at hr5; cases hr5
                          | stuck => rw [hte] at hr5; cases hr5
                          | ok yv M8 =>
                            rw [hte, Res.ne_ok, Res.bind_ok] at hr5
                            intro ro8 H8 yw R8 P8 ry
                            split at hr5
                            · rename_i hl
                              have mem7 : p ∈ ro7.hid := by rw [P7.hid]; exact mem5
                              have mem8 : p ∈ ro8.hid := by rw [P8.hid]; exact mem7
                              have hp8 : H8 p = some (.lst us6) := P8.keep p _ hp7 fun z => R7.dis p z mem7
                              have ra8 := Reps.mono P8 _ _ ra7
                              refine ⟨us6, hp8, by rw [← ra8.len]; exact line_lt hl, ro8, M8, acc6 ++ [yv], us6 ++ [yw], R8.unseen mem8, (W7.step P8).put hp, (PW7.trans P8.w).trans (PresW.put mem8), upd_same, ?_, hr5⟩
                              exact Reps.unseen mem8 _ _ (ra8.append (Reps.one ry))
                            · cases hr5
                  · rw [if_neg hc1] at hr5; cases hr5
                · have e : j = it1.ds.length := by omega
                  subst e
                  rw [List.drop_length] at hr5
                  unfold lcGo at hr5
                  by_cases hc1 : it1.chk M6
                  · rw [if_pos hc1] at hr5
                    cases hr5
                    exact .inl ⟨(I4 ro5 H5 _ R5 PW5 hc1).1, ro5, _, _, us6, R5, W5, hp5, ra5, hr⟩
                  · rw [if_neg hc1] at hr5; cases hr5
    · rw [if_neg hc] at hr; cases hr
  · have e : i = it.ds.length := by omega
    subst e
    rw [List.drop_length] at hr
    unfold lc2Go at hr
    by_cases hc : it.chk M'
    · rw [if_pos hc] at hr
      cases hr
      exact .inl ⟨(J1 ro' H' _ R' (Wi.w hp) hc).1, fin ro' H' us R' Wi hpl ra⟩
    · rw [if_neg hc] at hr; cases hr
section
variable {elt tg iter tg1 iter1 : Expr} {ifs ifs1 : List Expr} {scope : Scope} {own : List (Str × Nat)} {pos spos : Pos} {mi mi1 : MI} {g g1 : MG} {ix ix1 vs1 : List Nat} {tt tt1 : MB} {te : ME}
theorem lc2_tree {st : St} {H : Hp} {Q : VK} {vs : List Nat} (hix : ∀ i, i ∈ ix → i ∈ vs) (hix1 : ∀ i, i ∈ ix1 → i ∈ vs1) (q : liftE X.K X.mg W (lc2E mi g tt mi1 g1 tt1 te vs vs1) st H Q) :
    tLc2 (liftI X.K X.mg W mi) (liftG X.K X.mg g ix) (liftB X.K X.mg W0 tt) (liftI X.K X.mg W0 mi1) (liftG X.K X.mg g1 ix1) (liftB X.K X.mg W0 tt1) (liftE X.K X.mg W0 te) vs vs1 st H Q := by
  obtain ⟨ro, sd, M, R, S, P⟩ := q
  refine ⟨ro, sd, M, R, S, (Post.bind P).imp fun J H1 ⟨ro1, M1, it, R1, P1, J1, q1⟩ => fun p hp => ?_⟩
  refine lc2_turns hix hix1 R1 (S.mono P1) J1 hp ?_
  cases hrun : lc2Go it.chk g tt mi1 g1 tt1 te vs1 (wipeD sd vs) it.ds [] M1 with
  | stuck => rw [hrun] at q1; exact q1.elim
  | exc C ns ds M2 => rw [hrun] at q1; exact q1.elim
  | ok ds M2 =>
    rw [hrun, Res.ne_ok, Res.bind_ok] at q1
    refine ⟨ds, M2, rfl, fun ro' H' us R' Wi hpl ra => ?_⟩
    have mem : p ∈ ro'.hid := by rw [Wi.hid]; exact List.mem_cons_self
    refine q1 _ H' (.ref p) (R'.shown' Wi.hid) Wi.out ⟨p, us, rfl, hpl, fun m => ?_, Reps.less (ro := ro') (ro' := ⟨ro'.ro, ro1.hid⟩) rfl (fun x (h : x ∈ ro1.hid) => by rw [Wi.hid]; exact List.mem_cons_of_mem _ h) _ _ ra⟩
    rcases List.mem_append.mp m with m | m
    · exact R'.dis p m mem
    · exact R1.liveN p m hp
variable (hc : X.calm = true) (hN : X.N.Nodup) (hi : DI X W tg iter mi) (ok : BlkOk X.N X.env.scope scope own) (hix : ∀ i, i ∈ ix → i ∈ own.map (·.2)) (hix1 : ∀ i, i ∈ ix1 → i ∈ vs1) (hv : ∀ i, i ∈ vs1 → i ∈ own.map (·.2))
    (hg : ∀ (s : Shared) (H : Hp) (C : Addr) (cl : List (Str × Addr)) (fp : List Addr), DG (X.blk s H scope (compEnvC scope cl C X.env) fp) tg g ix) (ht : ∀ (s : Shared) (H : Hp) (C : Addr) (cl : List (Str × Addr)) (fp : List Addr), DTs (X.blk s H scope (compEnvC scope cl C X.env) fp) W0 ifs tt)
    (hi1 : ∀ (s : Shared) (H : Hp) (C : Addr) (cl : List (Str × Addr)) (fp : List Addr), DI (X.blk s H scope (compEnvC scope cl C X.env) fp) W0 tg1 iter1 mi1)
    (hg1 : ∀ (s : Shared) (H : Hp) (C : Addr) (cl : List (Str × Addr)) (fp : List Addr), DG (X.blk s H scope (compEnvC scope cl C X.env) fp) tg1 g1 ix1) (ht1 : ∀ (s : Shared) (H : Hp) (C : Addr) (cl : List (Str × Addr)) (fp : List Addr), DTs (X.blk s H scope (compEnvC scope cl C X.env) fp) W0 ifs1 tt1)
    (he : ∀ (s : Shared) (H : Hp) (C : Addr) (cl : List (Str × Addr)) (fp : List Addr), DE (X.blk s H scope (compEnvC scope cl C X.env) fp) W0 elt te)
include hc hN hi ok hix hix1 hv hg ht hi1 hg1 ht1 he
theorem de_lc2 (hs : ∀ x, foldedSetIterable iter X.env x = pure x := by intro _; rfl) (hs1 : ∀ env x, foldedSetIterable iter1 env x = pure x := by intro _ _; rfl) : DE X W (.ListComp elt [⟨tg, iter, ifs, 0⟩, ⟨tg1, iter1, ifs1, 0⟩] scope pos) (lc2E mi g tt mi1 g1 tt1 te (own.map (·.2)) vs1) :=
  ⟨⟨fun pins s st H Q I q => (pe_lc2 hc hN hi.pi ok hv (fun a b c d e => (hg a b c d e).pg) (fun a b c d e => (ht a b c d e).pts) (fun a b c d e => (hi1 a b c d e).pi) (fun a b c d e => (hg1 a b c d e).pg) (fun a b c d e => (ht1 a b c d e).pts) (fun a b c d e => (he a b c d e).pe) hs hs1).run pins s st H Q I (lc2_tree hix hix1 q)⟩⟩
theorem ds_setLc2 {i : Nat} {y : Str} {py : Pos} (hy : X.N[i]? = some y) (hyl : X.env.scope.names.lookup y = some .local) (hsw : swapsWith (.ListComp elt [⟨tg, iter, ifs, 0⟩, ⟨tg1, iter1, ifs1, 0⟩] scope pos) (some (.Name y py)) spos.line X.env = pure true)
    (hs : ∀ x, foldedSetIterable iter X.env x = pure x := by intro _; rfl) (hs1 : ∀ env x, foldedSetIterable iter1 env x = pure x := by intro _ _; rfl) : DS X W (.Assign [.Name y py] (.ListComp elt [⟨tg, iter, ifs, 0⟩, ⟨tg1, iter1, ifs1, 0⟩] scope pos) spos) (setS i (lc2E mi g tt mi1 g1 tt1 te (own.map (·.2)) vs1)) := by
  refine ⟨⟨fun pins s st H D0 I q => (ps_setLc2 (wi := liftI X.K X.mg W mi) (g := liftG X.K X.mg g ix) (tt := liftB X.K X.mg W0 tt) (wi1 := liftI X.K X.mg W0 mi1) (g1 := liftG X.K X.mg g1 ix1) (tt1 := liftB X.K X.mg W0 tt1) (te := liftE X.K X.mg W0 te) hc hN hy hyl hsw hi.pi ok hv (fun a b c d e => (hg a b c d e).pg) (fun a b c d e => (ht a b c d e).pts) (fun a b c d e => (hi1 a b c d e).pi) (fun a b c d e => (hg1 a b c d e).pg) (fun a b c d e => (ht1 a b c d e).pts) (fun a b c d e => (he a b c d e).pe) hs hs1).run pins s st H D0 I ?_⟩⟩
  obtain ⟨ro, sd, M, R, S, P⟩ := q
  refine lc2_tree hix hix1 ⟨ro, sd, M, R, S, (PostS.ofE P S).imp fun x H1 ⟨ro1, M1, d, R1, P1, r1, q1⟩ => ?_⟩
  exact q1 ro1 H1 _ R1 (Pres.refl _ _) ((S.mono P1).set r1)
end
end
section
variable {sd : SD} {M : MS} {mi mi1 : MI} {g g1 : MG} {tt tt1 : MB} {te : ME} {vs vs1 : List Nat}
noncomputable def lc2K (g : MG) (tt : MB) (mi1 : MI) (g1 : MG) (tt1 : MB) (te : ME) (vs vs1 : List Nat) (sd : SD) : ItD → MS → Res D := fun it M1 => (lc2Go it.chk g tt mi1 g1 tt1 te vs1 (wipeD sd vs) it.ds [] M1).ne.bind lstK'
@[simp] theorem lc2E_ap : lc2E mi g tt mi1 g1 tt1 te vs vs1 sd M = (mi sd M).bind (lc2K g tt mi1 g1 tt1 te vs vs1 sd) := rfl
theorem lc2K_ap {it : ItD} : lc2K g tt mi1 g1 tt1 te vs vs1 sd it M = (lc2Go it.chk g tt mi1 g1 tt1 te vs1 (wipeD sd vs) it.ds [] M).ne.bind lstK' := rfl
end
end DL

/-! DL: a, b = a list; range(i, j, -1); running comprehensions with two for clauses. -/
namespace DL
open PySem PySem.Spec L2
open PyProof.Rows hiding St
/-- a, b, .. = a tuple or a list -/
def unlG (is : List Nat) : MG := fun d sd => match d with
  | .tup ds => setAll is ds sd
  | .lst ds => setAll is ds sd
  | .flst ds => setAll is ds sd
  | _ => none
theorem setAll_len : ∀ {is : List Nat} {ds : List D} {sd sd' : SD}, setAll is ds sd = some sd' → ds.length = is.length
  | [], [], _, _, _ => rfl
  | [], _ :: _, _, _, h => by cases h
  | _ :: _, [], _, _, h => by cases h
  | i :: is, d :: ds, sd, sd', h => by simpa using setAll_len (is := is) (ds := ds) h
section
variable {X : Cx} {W : WX}
theorem dg_un {es : List Expr} {is : List Nat} {kk : Nat} {pos : Pos} (hc : X.calm = true) (h : DGs X es is) (hn : (assignEach es X.env).length = is.length := by rfl) (hst : (assignEach es X.env).findIdx? (·.1) = none := by rfl) : DG X (.Tuple es kk pos) (unlG is) is := by
  refine ⟨⟨fun pins s st H v u Q I r q => ?_⟩⟩
  obtain ⟨ro, sd, M, d, R, S, rd, sd', e, q⟩ := q
  cases d with
  | tup ds =>
    refine (pg_tup (n := is.length) hc h.pgs hn hst).run pins s st H v u Q I r ?_
    obtain ⟨a, vs, rfl, hq, rs⟩ := rd
    exact ⟨a, vs, rfl, hq.sq, by rw [← rs.len]; exact setAll_len e, ro, M, sd, ds, R, S, rs, sd', e, q⟩
  | lst ds =>
    refine (pg_unl (n := is.length) hc h.pgs hn hst).run pins s st H v u Q I r ?_
    obtain ⟨a, vs, rfl, hq, _, rs⟩ := rd
    exact ⟨a, vs, rfl, SqL.of hq, by rw [← rs.len]; exact setAll_len e, ro, M, sd, ds, R, S, rs, sd', e, q⟩
  | flst ds =>
    refine (pg_unl (n := is.length) hc h.pgs hn hst).run pins s st H v u Q I r ?_
    obtain ⟨a, vs, rfl, hq, rs⟩ := rd
    exact ⟨a, vs, rfl, hq.sq, by rw [← rs.len]; exact setAll_len e, ro, M, sd, ds, R, S, rs, sd', e, q⟩
  | _ => cases e
/-- downward by ones -/
def downN (i j : Int) : List Int := (List.range (i - j).toNat).map fun (k : Nat) => i + k * (-1)
def range3N (a : MA) : MI := fun sd M => (a sd M).bind fun ds M1 => match ds with
  | [.int i, .int j, .int c] => if -1000000000 ≤ i ∧ i ≤ 1000000000 ∧ -1000000000 ≤ j ∧ j ≤ 1000000000 ∧ c = -1 then .ok (intsI (downN i j)) M1 else .stuck
  | _ => .stuck
theorem size_down {a b : Int} : Builtin.Range.rangeSize a b (-1) = (((a - b).toNat : Nat) : Int) := by
  unfold Builtin.Range.rangeSize
  rw [if_neg (by omega)]
  by_cases h : b < a
  · simp only [h]
    simp
    omega
  · simp only [h]
    simp
    omega
theorem small_down {a b : Int} (h1 : -1000000000 ≤ a) (h2 : a ≤ 1000000000) (h3 : -1000000000 ≤ b) (h4 : b ≤ 1000000000) : Builtin.Range.small a b (-1) = true := by
  unfold Builtin.Range.small
  rw [size_down]
  by_cases h : b < a
  · simp [Builtin.Range.rangeFitsLong, h]
    omega
  · simp [Builtin.Range.rangeFitsLong, h]
    omega
theorem di_range3N {tg a b c : Expr} {p pos : Pos} {ma : MA} (hg : Gl X "range") (hm : X.mg "range" = none) (ha : DA X W [a, b, c] ma)
    (hs : starEach [a, b, c] X.env = (false, eval a X.env) :: starEach [b, c] X.env := by rfl) (hpl : (backTo pos (starEach [b, c] X.env)).any (·.1) = false := by rfl) : DI X W tg (.Call (.Name "range" p) [a, b, c] [] pos) (range3N ma) := by
  refine ⟨⟨fun pins s st H Q I q => (pi_range3 hg hm ha.pa hs hpl).run pins s st H Q I ?_⟩⟩
  obtain ⟨ro, sd, M, R, S, P⟩ := q
  refine ⟨ro, sd, M, R, S, (Post.bind P).imp fun xs H1 ⟨ro1, M1, ds, R1, P1, r1, q1⟩ => ?_⟩
  split at q1
  · rename_i i j c
    obtain ⟨v, w, x, rfl, r, r', r''⟩ := reps3 r1
    cases (show v = V.int i from r)
    cases (show w = V.int j from r')
    cases (show x = V.int c from r'')
    split at q1
    · rename_i hj
      obtain ⟨j1, j2, j3, j4, rfl⟩ := hj
      exact ⟨i, j, -1, (i - j).toNat, rfl, ⟨by omega, by omega, small_down j1 j2 j3 j4, size_down⟩, q1 ro1 H1 _ R1 (Pres.refl _ _) (iterOk_ints i (-1) _)⟩
    · exact q1.elim
  · exact q1.elim
end
section
variable {sd : SD} {M : MS} {ms : MA}
def r3N : List D → MS → Res ItD := fun ds M1 => match ds with
  | [.int i, .int j, .int c] => if -1000000000 ≤ i ∧ i ≤ 1000000000 ∧ -1000000000 ≤ j ∧ j ≤ 1000000000 ∧ c = -1 then .ok (intsI (downN i j)) M1 else .stuck
  | _ => .stuck
@[simp] theorem range3N_ap : range3N ms sd M = (ms sd M).bind r3N := rfl
theorem r3N_ap {i j : Int} (h : -1000000000 ≤ i ∧ i ≤ 1000000000 ∧ -1000000000 ≤ j ∧ j ≤ 1000000000) : r3N [.int i, .int j, .int (-1)] M = .ok (intsI (downN i j)) M := if_pos ⟨h.1, h.2.1, h.2.2.1, h.2.2.2, rfl⟩
/-- a comprehension over a typed list that changes nothing, from an accumulator on -/
theorem lc_acc {β : Type} {g : β → D} {f : β → D} {i : Nat} {w : SD} {te : ME} : ∀ (ys : List β) (acc : List D), acc.length + ys.length ≤ 1000000 → (∀ y, y ∈ ys → te (w.set i (some (g y))) M = .ok (f y) M) →
    lcGo (fun _ => True) (nameG i) yesB te w (ys.map g) acc M = .ok (acc ++ ys.map f) M
  | [], acc, _, _ => by simp [lcGo]
  | y :: ys, acc, hl, h => by
    rw [List.map_cons]
    unfold lcGo
    rw [if_pos trivial, nameG_ap]
    dsimp only
    rw [yesB_ap, Res.ne_ok, Res.bind_ok, if_pos rfl, h y List.mem_cons_self, Res.ne_ok, Res.bind_ok, if_pos (by simp at hl; omega), lc_acc ys (acc ++ [f y]) (by simp at hl ⊢; omega) fun z hz => h z (List.mem_cons_of_mem _ hz)]
    simp
/-- the same with two for clauses -/
theorem lc2_pure {α β : Type} {g : α → D} {g1 : β → D} {ys : α → List β} {f : α → β → D} {i j : Nat} {vs1 : List Nat} {w : SD} {mi1 : MI} {te : ME} : ∀ (xs : List α) (acc : List D), acc.length + (xs.flatMap ys).length ≤ 1000000 →
    (∀ x, x ∈ xs → mi1 (w.set i (some (g x))) M = .ok ⟨(ys x).map g1, fun _ => True⟩ M ∧ ∀ y, y ∈ ys x → te ((wipeD (w.set i (some (g x))) vs1).set j (some (g1 y))) M = .ok (f x y) M) →
    lc2Go (fun _ => True) (nameG i) yesB mi1 (nameG j) yesB te vs1 w (xs.map g) acc M = .ok (acc ++ xs.flatMap fun x => (ys x).map (f x)) M
  | [], acc, _, _ => by simp [lc2Go]
  | x :: xs, acc, hl, h => by
    obtain ⟨h1, h2⟩ := h x List.mem_cons_self
    rw [List.map_cons]
    unfold lc2Go
    rw [if_pos trivial, nameG_ap]
    dsimp only
    rw [yesB_ap, Res.ne_ok, Res.bind_ok, if_pos rfl, h1, Res.ne_ok, Res.bind_ok]
    dsimp only
    simp only [List.flatMap_cons, List.length_append] at hl
    rw [lc_acc (ys x) acc (by omega) h2, Res.ne_ok, Res.bind_ok, lc2_pure xs _ (by simp only [List.length_append, List.length_map]; omega) fun z hz => h z (List.mem_cons_of_mem _ hz)]
    simp
end
end DL

/-! DL: new places that are in what a def gives stay, the others are forgotten. -/
namespace DL
open PySem PySem.Spec L2
open PyProof.Rows hiding St
mutual
/-- the new places in d, from the left -/
def newc (n : Nat) : D → List Nat
  | .tup ds => newcs n ds
  | .lst ds => newcs n ds
  | .flst ds => newcs n ds
  | .obj _ _ ds => newcs n ds
  | .dic _ ds => newcs n ds
  | .exn _ _ ds _ _ => newcs n ds
  | .cell k => if k < n then [] else [k]
  | _ => []
def newcs (n : Nat) : List D → List Nat
  | [] => []
  | d :: ds => newc n d ++ newcs n ds
end
mutual
/-- places get other numbers -/
def ren (f : Nat → Nat) : D → D
  | .tup ds => .tup (rens f ds)
  | .lst ds => .lst (rens f ds)
  | .flst ds => .flst (rens f ds)
  | .obj C ns ds => .obj C ns (rens f ds)
  | .dic ks ds => .dic ks (rens f ds)
  | .exn C ns ds x d => .exn C ns (rens f ds) x d
  | .cell k => .cell (f k)
  | d => d
def rens (f : Nat → Nat) : List D → List D
  | [] => []
  | d :: ds => ren f d :: rens f ds
end
mutual
def allc (P : Nat → Prop) : D → Prop
  | .tup ds => allcs P ds
  | .lst ds => allcs P ds
  | .flst ds => allcs P ds
  | .obj _ _ ds => allcs P ds
  | .dic _ ds => allcs P ds
  | .exn _ _ ds _ _ => allcs P ds
  | .cell k => P k
  | _ => True
def allcs (P : Nat → Prop) : List D → Prop
  | [] => True
  | d :: ds => allc P d ∧ allcs P ds
end
mutual
theorem newc_all {n : Nat} {Q : Nat → Prop} (h0 : ∀ k, k < n → Q k) : ∀ d : D, (∀ k, k ∈ newc n d → Q k) → allc Q d
  | .non, _ => trivial
  | .bl _, _ => trivial
  | .int _, _ => trivial
  | .str _, _ => trivial
  | .glo _, _ => trivial
  | .ty _, _ => trivial
  | .tup ds, h => newcs_all h0 ds h
  | .lst ds, h => newcs_all h0 ds h
  | .flst ds, h => newcs_all h0 ds h
  | .obj _ _ ds, h => newcs_all h0 ds h
  | .dic _ ds, h => newcs_all h0 ds h
  | .exn _ _ ds _ _, h => newcs_all h0 ds h
  | .cell k, h => by
    show Q k
    by_cases hk : k < n
    · exact h0 k hk
    · exact h k (by show k ∈ (if k < n then [] else [k]); rw [if_neg hk]; simp)
theorem newcs_all {n : Nat} {Q : Nat → Prop} (h0 : ∀ k, k < n → Q k) : ∀ ds : List D, (∀ k, k ∈ newcs n ds → Q k) → allcs Q ds
  | [], _ => trivial
  | d :: ds, h => ⟨newc_all h0 d fun k hk => h k (List.mem_append_left _ hk), newcs_all h0 ds fun k hk => h k (List.mem_append_right _ hk)⟩
end
mutual
theorem nc_all {n : Nat} {Q : Nat → Prop} (h0 : ∀ k, k < n → Q k) : ∀ d : D, nc n d = true → allc Q d
  | .non, _ => trivial
  | .bl _, _ => trivial
  | .int _, _ => trivial
  | .str _, _ => trivial
  | .glo _, _ => trivial
  | .ty _, _ => trivial
  | .tup ds, h => ncs_all h0 ds h
  | .lst ds, h => ncs_all h0 ds h
  | .flst ds, h => ncs_all h0 ds h
  | .obj _ _ ds, h => ncs_all h0 ds h
  | .dic _ ds, h => ncs_all h0 ds h
  | .exn _ _ ds _ _, h => ncs_all h0 ds h
  | .cell k, h => h0 k (of_decide_eq_true h)
theorem ncs_all {n : Nat} {Q : Nat → Prop} (h0 : ∀ k, k < n → Q k) : ∀ ds : List D, ncs n ds = true → allcs Q ds
  | [], _ => trivial
  | d :: ds, h => by
    obtain ⟨h1, h2⟩ := Bool.and_eq_true_iff.mp (show (nc n d && ncs n ds) = true from h)
    exact ⟨nc_all h0 d h1, ncs_all h0 ds h2⟩
end
mutual
theorem ren_nc {n : Nat} {f : Nat → Nat} (h0 : ∀ k, k < n → f k = k) : ∀ d : D, nc n d = true → ren f d = d
  | .non, _ => rfl
  | .bl _, _ => rfl
  | .int _, _ => rfl
  | .str _, _ => rfl
  | .glo _, _ => rfl
  | .ty _, _ => rfl
  | .tup ds, h => congrArg D.tup (rens_nc h0 ds h)
  | .lst ds, h => congrArg D.lst (rens_nc h0 ds h)
  | .flst ds, h => congrArg D.flst (rens_nc h0 ds h)
  | .obj C ns ds, h => congrArg (D.obj C ns) (rens_nc h0 ds h)
  | .dic ks ds, h => congrArg (D.dic ks) (rens_nc h0 ds h)
  | .exn C ns ds x d, h => congrArg (fun es => D.exn C ns es x d) (rens_nc h0 ds h)
  | .cell k, h => congrArg D.cell (h0 k (of_decide_eq_true h))
theorem rens_nc {n : Nat} {f : Nat → Nat} (h0 : ∀ k, k < n → f k = k) : ∀ ds : List D, ncs n ds = true → rens f ds = ds
  | [], _ => rfl
  | d :: ds, h => by
    obtain ⟨h1, h2⟩ := Bool.and_eq_true_iff.mp (show (nc n d && ncs n ds) = true from h)
    show ren f d :: rens f ds = _
    rw [ren_nc h0 d h1, rens_nc h0 ds h2]
end
section
variable {K : PySem.W.Frag} {mg : Str → Option Value} {ro' ro2 : Pl} {H : Hp}
mutual
theorem Rep.ren {f : Nat → Nat} {Q : Nat → Prop} (hs : ∀ a, a ∈ ro2.all → a ∈ ro'.all) (hc : ∀ k, Q k → ∀ a, ro'.ro[k]? = some a → ro2.ro[f k]? = some a) : ∀ (d : D) (v : V), allc Q d → Rep K mg ro' H d v → Rep K mg ro2 H (DL.ren f d) v
  | .non, v, _, q => q
  | .bl b, v, _, q => q
  | .int i, v, _, q => q
  | .str x, v, _, q => q
  | .glo x, v, _, q => q
  | .ty n, v, _, q => q
  | .tup ds, v, c, ⟨a, vs, e1, q, r⟩ => ⟨a, vs, e1, q.imp (fun ⟨z, n⟩ => ⟨z, fun m => n (hs a m)⟩) id, Reps.ren hs hc ds vs c r⟩
  | .lst ds, v, c, ⟨a, vs, e1, q, n, r⟩ => ⟨a, vs, e1, q, fun m => n (hs a m), Reps.ren hs hc ds vs c r⟩
  | .flst ds, v, c, ⟨a, vs, e1, q, r⟩ => ⟨a, vs, e1, q.imp (fun ⟨z, n⟩ => ⟨z, fun m => n (hs a m)⟩) id, Reps.ren hs hc ds vs c r⟩
  | .obj C ns ds, v, c, ⟨a, cc, dx, vs, e1, g, q, n, l, r⟩ => ⟨a, cc, dx, vs, e1, g, q, fun m => n (hs a m), l, Reps.ren hs hc ds vs c r⟩
  | .dic ks ds, v, c, ⟨a, kl, vs, e1, g, l, q, n, r⟩ => ⟨a, kl, vs, e1, g, l, q, fun m => n (hs a m), Reps.ren hs hc ds vs c r⟩
  | .exn C ns ds x d, v, c, ⟨a, vs, e1, q, n, l, r⟩ => ⟨a, vs, e1, q, fun m => n (hs d m), l, Reps.ren hs hc ds vs c r⟩
  | .cell k, v, c, ⟨a, e1, g⟩ => ⟨a, e1, hc k c a g⟩
theorem Reps.ren {f : Nat → Nat} {Q : Nat → Prop} (hs : ∀ a, a ∈ ro2.all → a ∈ ro'.all) (hc : ∀ k, Q k → ∀ a, ro'.ro[k]? = some a → ro2.ro[f k]? = some a) : ∀ (ds : List D) (vs : List V), allcs Q ds → Reps K mg ro' H ds vs → Reps K mg ro2 H (rens f ds) vs
  | [], vs, _, q => q
  | d :: ds, vs, c, ⟨v, r, e1, q, t⟩ => ⟨v, r, e1, Rep.ren hs hc d v c.1 q, Reps.ren hs hc ds r c.2 t⟩
end
theorem Reps.same {n : Nat} (hs : ∀ a, a ∈ ro2.all → a ∈ ro'.all) (hc : ∀ k, k < n → ∀ a, ro'.ro[k]? = some a → ro2.ro[k]? = some a) {ds : List D} {vs : List V} (h : ncs n ds = true) (r : Reps K mg ro' H ds vs) : Reps K mg ro2 H ds vs := by
  have := Reps.ren (f := id) (Q := fun k => k < n) hs hc ds vs (ncs_all (fun k hk => hk) ds h) r
  rwa [rens_nc (n := n) (f := id) (fun k _ => rfl) ds h] at this
theorem MRel.same {n : Nat} (hs : ∀ a, a ∈ ro2.all → a ∈ ro'.all) (hc : ∀ k, k < n → ∀ a, ro'.ro[k]? = some a → ro2.ro[k]? = some a) {mo : MO} {ho : HO} (h : ncM n mo = true) (r : MRel K mg ro' H mo ho) : MRel K mg ro2 H mo ho := by
  cases mo with
  | lst ds => obtain ⟨vs, e1, r⟩ := r; exact ⟨vs, e1, Reps.same hs hc h r⟩
  | obj C ns ds => obtain ⟨d, dx, vs, e1, g, l, r⟩ := r; exact ⟨d, dx, vs, e1, g, l, Reps.same hs hc h r⟩
  | dic ks ds => obtain ⟨kl, vs, e1, g, l, r⟩ := r; exact ⟨kl, vs, e1, g, l, Reps.same hs hc h r⟩
  | tab i C m =>
    obtain ⟨ps, P, e1, t, g, k⟩ := r
    exact ⟨ps, P, e1, ⟨t.1, fun ps cv hc' => let ⟨c, e1, e2, e3⟩ := t.2 ps cv hc'; ⟨c, e1, e2, fun m => e3 (hs c m)⟩⟩, hc i (of_decide_eq_true h) P g, k⟩
end
/-- the memory that stays -/
def gcM (n : Nat) (ks : List Nat) (M' : MS) : MS := M'.take n ++ ks.map fun k => (M'[k]?).getD (.lst [])
def gcF (n : Nat) (ks : List Nat) : Nat → Nat := fun k => if k < n then k else n + ks.idxOf k
open Classical in
noncomputable def gcR (M : MS) (x : Res D) : Res D := match x with
  | .ok d M' => if (M'.take M.length = M ∨ (M'.take M.length).all (ncM M.length) = true) ∧ (newc M.length d).Nodup ∧ (∀ k, k ∈ newc M.length d → ∃ mo, M'[k]? = some mo ∧ ncM M.length mo = true) then .ok (ren (gcF M.length (newc M.length d)) d) (gcM M.length (newc M.length d) M') else .stuck
  | .exc C ns ds M' => closeR M (.exc C ns ds M')
  | .stuck => .stuck
section
variable {K : PySem.W.Frag} {mg : Str → Option Value} {ro ro' : Pl} {H : Hp}
theorem newc_ge {n : Nat} : (∀ d : D, ∀ k, k ∈ newc n d → n ≤ k) ∧ ∀ ds : List D, ∀ k, k ∈ newcs n ds → n ≤ k := by
  have key : ∀ (m : Nat), (∀ d : D, sizeOf d ≤ m → ∀ k, k ∈ newc n d → n ≤ k) ∧ ∀ ds : List D, sizeOf ds ≤ m → ∀ k, k ∈ newcs n ds → n ≤ k := by
    intro m
    induction m with
    | zero =>
      refine ⟨fun d h => ?_, fun ds h => ?_⟩
      · cases d <;> simp at h
      · cases ds <;> simp at h
    | succ m ih =>
      refine ⟨fun d h k hk => ?_, fun ds h k hk => ?_⟩
      · cases d with
        | cell j =>
          have hk : k ∈ (if j < n then [] else [j]) := hk
          split at hk
          · cases hk
          · rw [List.mem_singleton.mp hk]; omega
        | tup ds => exact ih.2 ds (by simp at h; omega) k hk
        | lst ds => exact ih.2 ds (by simp at h; omega) k hk
        | flst ds => exact ih.2 ds (by simp at h; omega) k hk
        | obj C ns ds => exact ih.2 ds (by simp at h; omega) k hk
        | dic ks ds => exact ih.2 ds (by simp at h; omega) k hk
        | exn C ns ds x d => exact ih.2 ds (by simp at h; omega) k hk
        | _ => cases hk
      · cases ds with
        | nil => cases hk
        | cons d ds =>
          rcases List.mem_append.mp hk with hk | hk
          · exact ih.1 d (by simp at h; omega) k hk
          · exact ih.2 ds (by simp at h; omega) k hk
  exact ⟨fun d => (key _).1 d (Nat.le_refl _), fun ds => (key _).2 ds (Nat.le_refl _)⟩
/-- back to the places that were there, and some of the new ones -/
theorem RelS.gc {M M' : MS} {H' : Hp} {ks : List Nat} (R : RelS K mg ro M H) (R' : RelS K mg ro' M' H') (P : Pres ro H ro' H') (hc : M'.take M.length = M ∨ (M'.take M.length).all (ncM M.length) = true) (hn : ks.Nodup) (hg : ∀ k, k ∈ ks → M.length ≤ k) (hm : ∀ k, k ∈ ks → ∃ mo, M'[k]? = some mo ∧ ncM M.length mo = true) :
    ∃ ro2 : Pl, RelS K mg ro2 (gcM M.length ks M') H' ∧ Pres ro H ro2 H' ∧ (∀ a, a ∈ ro2.all → a ∈ ro'.all) ∧ ∀ k, (k < M.length ∨ k ∈ ks) → ∀ a, ro'.ro[k]? = some a → ro2.ro[gcF M.length ks k]? = some a := by
  obtain ⟨t, et⟩ := P.pre
  have hl : M.length ≤ M'.length := by rw [← R.len, ← R'.len, et, List.length_append]; omega
  have htl : (M'.take M.length).length = M.length := by rw [List.length_take]; omega
  have ad : ∀ k, k ∈ ks → ∃ a, ro'.ro[k]? = some a := fun k hk => by
    obtain ⟨mo, e, _⟩ := hm k hk
    have := (List.getElem?_eq_some_iff.mp e).1
    exact ⟨_, List.getElem?_eq_getElem (by rw [R'.len]; exact this)⟩
  have inj : ∀ {i j : Nat} {a : Addr}, ro'.ro[i]? = some a → ro'.ro[j]? = some a → i = j := fun {i j a} h1 h2 => by
    obtain ⟨l1, q1⟩ := List.getElem?_eq_some_iff.mp h1
    obtain ⟨l2, q2⟩ := List.getElem?_eq_some_iff.mp h2
    exact (List.getElem_inj R'.nd).mp (q1.trans q2.symm)
  have old : ∀ i, i < M.length → ro'.ro[i]? = ro.ro[i]? := fun i hi => by
    rw [et, List.getElem?_append_left (by rw [R.len]; exact hi)]
  have lro := R.len
  generalize hA : (ks.map fun k => (ro'.ro[k]?).getD 0) = as
  have asl : as.length = ks.length := by rw [← hA, List.length_map]
  have as_at : ∀ (j k : Nat) (a : Addr), ks[j]? = some k → ro'.ro[k]? = some a → as[j]? = some a := fun j k a h1 h2 => by
    rw [← hA, List.getElem?_map, h1, Option.map_some, h2]
    rfl
  have as_in : ∀ a, a ∈ as → ∃ k, k ∈ ks ∧ ro'.ro[k]? = some a := fun a ha => by
    rw [← hA] at ha
    obtain ⟨k, hk, e⟩ := List.mem_map.mp ha
    obtain ⟨b, hb⟩ := ad k hk
    rw [hb] at e
    exact ⟨k, hk, by rw [hb]; exact congrArg some e⟩
  have hs : ∀ a, a ∈ (⟨ro.ro ++ as, ro.hid⟩ : Pl).all → a ∈ ro'.all := fun a h => by
    rcases List.mem_append.mp h with h | h
    · rcases List.mem_append.mp h with h | h
      · exact List.mem_append_left _ (P.mem h)
      · obtain ⟨k, _, e⟩ := as_in a h
        exact List.mem_append_left _ (List.mem_of_getElem? e)
    · exact List.mem_append_right _ (by rw [P.hid]; exact h)
  have low : ∀ k, k < M.length → ∀ a, ro'.ro[k]? = some a → (ro.ro ++ as)[k]? = some a := fun k hk a e => by
    rw [List.getElem?_append_left (by rw [R.len]; exact hk), ← old k hk]
    exact e
  refine ⟨⟨ro.ro ++ as, ro.hid⟩, ⟨?_, ?_, fun a ha => R'.live a (by rw [P.hid]; exact ha), fun a ha => ?_, fun i mo a e1 e2 => ?_⟩, ⟨⟨as, rfl⟩, rfl, P.keep, fun a h => ?_⟩, hs, fun k hk a e => ?_⟩
  · unfold gcM
    rw [List.length_append, List.length_append, htl, List.length_map, asl, R.len]
  · rw [List.nodup_append]
    refine ⟨R.nd, ?_, fun a ha b hb => ?_⟩
    · refine List.pairwise_iff_getElem.mpr fun i j hi hj hij h => ?_
      have hi' : i < ks.length := by rw [asl] at hi; exact hi
      have hj' : j < ks.length := by rw [asl] at hj; exact hj
      obtain ⟨a, ha⟩ := ad _ (List.getElem_mem hi')
      obtain ⟨b, hb⟩ := ad _ (List.getElem_mem hj')
      have e1 := as_at i _ a (List.getElem?_eq_getElem hi') ha
      have e2 := as_at j _ b (List.getElem?_eq_getElem hj') hb
      rw [List.getElem?_eq_getElem hi] at e1
      rw [List.getElem?_eq_getElem hj] at e2
      have e3 : a = b := by injection e1 with e1; injection e2 with e2; rw [← e1, ← e2, h]
      rw [← e3] at hb
      have := inj ha hb
      have := (List.getElem_inj hn).mp this
      omega
    · obtain ⟨k, hk, e⟩ := as_in b hb
      obtain ⟨i, hi⟩ := List.getElem?_of_mem ha
      have hil := (List.getElem?_eq_some_iff.mp hi).1
      rw [R.len] at hil
      intro hab
      rw [← hab, ] at e
      have := inj ((old i hil).trans hi) e
      have := hg k hk
      omega
  · rcases List.mem_append.mp ha with h | h
    · exact R.dis a h
    · obtain ⟨k, _, e⟩ := as_in a h
      exact fun z => R'.dis a (List.mem_of_getElem? e) (by rw [P.hid]; exact z)
  · unfold gcM at e1
    have e2 : (ro.ro ++ as)[i]? = some a := e2
    by_cases hi : i < M.length
    · rw [List.getElem?_append_left (by rw [htl]; exact hi), List.getElem?_take_of_lt hi] at e1
      rw [List.getElem?_append_left (by rw [R.len]; exact hi)] at e2
      obtain ⟨ho, e3, m⟩ := R'.at_ i mo a e1 ((old i hi).trans e2)
      refine ⟨ho, e3, m.same hs low ?_⟩
      rcases hc with hc | hc
      · have : M[i]? = some mo := by rw [← hc, List.getElem?_take_of_lt hi]; exact e1
        obtain ⟨ho', e4, m'⟩ := R.at_ i mo a this e2
        rw [← R.len]
        exact m'.nc
      · refine List.all_eq_true.mp hc mo (List.mem_of_getElem? (i := i) ?_)
        rw [List.getElem?_take_of_lt hi]; exact e1
    · rw [List.getElem?_append_right (by rw [htl]; omega), htl, List.getElem?_map] at e1
      rw [List.getElem?_append_right (by rw [R.len]; omega), R.len] at e2
      cases hk : ks[i - M.length]? with
      | none => rw [hk] at e1; cases e1
      | some k =>
        rw [hk, Option.map_some] at e1
        obtain ⟨mo', hmo, nmo⟩ := hm k (List.mem_of_getElem? hk)
        rw [hmo] at e1
        have e1 : mo' = mo := by simpa using e1
        subst e1
        obtain ⟨b, hb⟩ := ad k (List.mem_of_getElem? hk)
        rw [as_at _ k b hk hb] at e2
        cases e2
        obtain ⟨ho, e3, m⟩ := R'.at_ k mo' _ hmo hb
        exact ⟨ho, e3, m.same hs low nmo⟩
  · rcases List.mem_append.mp h with h | h
    · exact .inl h
    · obtain ⟨k, _, e⟩ := as_in a h
      exact P.new a (List.mem_of_getElem? e)
  · show (ro.ro ++ as)[gcF M.length ks k]? = some a
    unfold gcF
    by_cases hkl : k < M.length
    · rw [if_pos hkl]
      exact low k hkl a e
    · rw [if_neg hkl]
      have hk : k ∈ ks := hk.resolve_left hkl
      rw [List.getElem?_append_right (by rw [R.len]; omega), R.len, show M.length + ks.idxOf k - M.length = ks.idxOf k by omega]
      exact as_at _ k a (List.getElem?_eq_some_iff.mpr ⟨List.idxOf_lt_length_of_mem hk, List.getElem_idxOf _⟩) e
theorem Post.gc {E : XK} {Q : VK} {M : MS} {x : Res D} (R : RelS K mg ro M H) (h : PostD K mg E ro H Q (gcR M x)) : PostD K mg E ro H Q x := by
  cases x with
  | stuck => exact h
  | exc C ns ds M' => exact Post.close R h
  | ok d M' =>
    intro ro' H' v R' P r
    unfold gcR at h
    dsimp only at h
    split at h
    · rename_i hc
      obtain ⟨ro2, R2, P2, hs, hf⟩ := R.gc R' P hc.1 hc.2.1 (newc_ge.1 d) hc.2.2
      refine h ro2 H' v R2 P2 (Rep.ren (Q := fun k => k < M.length ∨ k ∈ newc M.length d) hs hf d v (newc_all (fun k hk => .inl hk) d fun k hk => .inr hk) r)
    · exact h.elim
end
noncomputable def gcD (F : FM) : FM := fun ds M => gcR M (F ds M)
section
variable {P : Program} {w : World} {K : PySem.W.Frag} {mg : Str → Option Value} {base : Heap}
theorem DOk.gc {k : Nat} {f : Addr} {fd : FuncData} {ps : List Str} {F : FM} (h : DOk P w K mg base k f fd ps F) : DOk P w K mg base k f fd ps (gcD F) := h.imp fun ro H E Q ds M R Po => Post.gc R Po
end
section
variable {M : MS} {ds es : List D} {d : D}
/-- a def that gives one new place -/
theorem gcD_cell {F : FM} {t : MS} {k : Nat} (h : F ds M = .ok (.cell k) (M ++ t)) (hk : M.length ≤ k) (hm : (M ++ t)[k]? = some (.lst es)) (hn : ncs M.length es = true) : gcD F ds M = .ok (.cell M.length) (M ++ [.lst es]) := by
  unfold gcD
  rw [h]
  unfold gcR
  have hnew : newc M.length (.cell k) = [k] := by show (if k < M.length then [] else [k]) = [k]; rw [if_neg (by omega)]
  dsimp only
  rw [hnew, if_pos ⟨.inl (by simp), by simp, fun j hj => ⟨.lst es, by rw [List.mem_singleton.mp hj]; exact hm, hn⟩⟩]
  have e1 : gcF M.length [k] k = M.length := by unfold gcF; rw [if_neg (by omega)]; simp
  have e2 : gcM M.length [k] (M ++ t) = M ++ [.lst es] := by
    unfold gcM
    rw [List.map_singleton, hm]
    simp
  rw [e2]
  show Res.ok (D.cell (gcF M.length [k] k)) _ = _
  rw [e1]
theorem ncs_strs {n : Nat} : ∀ xs : Wd, ncs n (xs.map D.str) = true
  | [] => rfl
  | x :: xs => by
    show (nc n (D.str x) && ncs n (xs.map D.str)) = true
    rw [ncs_strs xs]
    rfl
end
end DL

/-! DL: set comprehensions of texts. -/
namespace DL
open PySem PySem.Spec L2
open PyProof.Rows hiding St
section
variable {P : Program} {w : World} {A : Around} {E : Value → Shared → Prop} {s : Shared} {a : Addr}
theorem setS_add {xs : List (List Nat)} {x : List Nat} {tk : Tok} {Q : Value → Shared → Prop} (G : SetS P w s.heap a xs) (room : xs.length + 1 < scanBound)
    (q : ∀ h', Heap.SameBut a s.heap h' → SetS P w h' a (insT xs x) → Q .none { s with heap := h', toks := s.toks + 1 }) : wpAny (model P w) A (call (.builtin "set.add") [.ref a, .str (tx x) tk]) Q E s := by
  refine wpAny_call_entry PySem.F.slot_set_add (setS_type G) PySem.F.entry_set_add ?_ (PySem.F.args_set_add_2 _ _)
  unfold Builtin.«set.add» Builtin.Frozenset.oneOther
  simp only [List.isEmpty_nil, bind_assoc]
  unfold Builtin.Frozenset.addrOf setAdd
  refine wpAny_bind (wpAny_pure ?_)
  try dsimp only
  refine wpAny_bind (wpAny_pure ?_)
  try dsimp only
  refine wpAny_bind (wpAny_holding (wpAny_bind ((strKind P w).pyHash (k := tx x) (strKind_is P w _ _) ?_)))
  refine setS_addH (s := { s with toks := s.toks + 1 }) G room fun h' sb g b => ?_
  show wpAny _ _ (ret Value.none) _ _ _
  exact wpAny_pure ⟨_, rfl, q h' sb g⟩
end
section
variable {X : Cx}
theorem addS_ok {pins : List (Addr × Obj)} {σ : St} {H : Hp} {s : Shared} {E : Value → Shared → Prop} {d : Addr} {xs : List (List Nat)} {x : List Nat} {tk : Tok} {Q : Value → Shared → Prop} (I : Inv X pins σ H s) (hd : H d = some (SetSO X.prog X.w d xs)) (room : xs.length + 1 < scanBound)
    (h : ∀ s', Inv X pins σ (upd H d (SetSO X.prog X.w d (insT xs x))) s' → Q .none s') : wpAny (model X.prog X.w) X.A (call (.builtin "set.add") [.ref d, .str (tx x) tk]) Q E s := by
  refine setS_add (setSO_at I hd) room fun h' sb g => ?_
  have he : ∃ u, h'.get? d = some u := let ⟨o, _, _, _, ho, _⟩ := g; ⟨o, ho⟩
  exact h _ (I.write (e := d) (t' := s.toks + 1) (by rw [hd]; trivial) (.inl rfl) (fun b u hb hu => (sb.2 b hb).trans hu) he (setSO_ok g))
/-- {elt for target in iter if ..} where elt is a text: p is the new set -/
def tSt (P : Program) (w : World) (wi : TI) (g : TG) (tt : TT) (te : TE) (vs : List Nat) : TE := fun st H Q => wi st H fun J H1 => ∀ p, H1 p = none → ∃ Wv : Nat → Nat → Hp → Prop, (∃ m, Wv 0 m (upd H1 p (SetSO P w p []))) ∧ ∀ i m H, Wv i m H →
  (J.stop i H ∧ Q (.ref p) H) ∨ (J.go i H ∧ ∃ Nx : Hp → Prop, (∀ H', Nx H' → ∃ m', m' < m ∧ Wv (i + 1) m' H') ∧ ∀ x H', J.yld i H x H' → g x (wipe st vs) H' fun s2 H2 => wipe s2 vs = wipe st vs ∧ tt s2 H2 fun b H3 =>
    if b = true then te s2 H3 fun y H4 => ∃ (x : List Nat) (xs : List (List Nat)), y = .str (tx x) ∧ H4 p = some (SetSO P w p xs) ∧ xs.length + 1 < scanBound ∧ Nx (upd H4 p (SetSO P w p (insT xs x))) else Nx H3)
theorem st_core {pins : List (Addr × Obj)} {s : Shared} {σ : St} {H : Hp} {Q : VK} {elt tg iter : Expr} {ifs : List Expr} {scope : Scope} {own : List (Str × Nat)} {pos pos' : Pos} {wi : TI} {g : TG} {tt : TT} {te : TE} {use : Option (Value → Sem Unit)} {Qf : Value → Shared → Prop}
    (hc : X.calm = true) (hN : X.N.Nodup) (I : Inv X pins σ H s) (hi : PI X tg iter wi) (ok : BlkOk X.N X.env.scope scope own)
    (hg : ∀ (s : Shared) (H : Hp) (C : Addr) (cl : List (Str × Addr)) (fp : List Addr), PG (X.blk s H scope (compEnvC scope cl C X.env) fp) tg g) (ht : ∀ (s : Shared) (H : Hp) (C : Addr) (cl : List (Str × Addr)) (fp : List Addr), PTs (X.blk s H scope (compEnvC scope cl C X.env) fp) ifs tt)
    (he : ∀ (s : Shared) (H : Hp) (C : Addr) (cl : List (Str × Addr)) (fp : List Addr), PE (X.blk s H scope (compEnvC scope cl C X.env) fp) elt te) (hs : ∀ x, foldedSetIterable iter X.env x = pure x)
    (h : tSt X.prog X.w wi g tt te (own.map (·.2)) σ H Q)
    (fin : ∀ p C s' m H', Inv X pins σ H' s' → Q (.ref p) H' → s'.heap.Ns C m → FpOk X pins H' C → compPost (model X.prog X.w) X.A X.xe use Qf (.ref p) C (.ok .next) s') :
    wpAny (model X.prog X.w) X.A (comprehension (.SetComp elt [⟨tg, iter, ifs, 0⟩] scope pos) scope X.env pos' (newSet (.type "set")) false (eval iter X.env) use) Qf X.xe s := by
  have cells : ∀ y ∈ scope.names, y.2 = .free → ∃ c, X.env.cells.lookup y.1 = some c := fun y hy e => (ok.free y hy e).elim (fun k => I.ok.has _ (.inl k)) fun k => I.ok.has _ (.inr k)
  refine wpAny_comprehension_free (use := use) rfl hs (closure_ok cells) ok.kind (fun y hy e => by rw [ok.uniq y hy, e]) (thn (hi.run pins s σ H _ I h) fun xv s1 hx => thn hx fun itv s2 h2 => ?_)
  obtain ⟨it, fp, tn, J, H2, rfl, I2, T, st2, f2, q⟩ := h2
  refine PpSet.newSet_ok (newEnv_comp ?_)
  -- the new set lies at p
  obtain ⟨p, hp⟩ : ∃ p, s2.heap.objs.size = p := ⟨_, rfl⟩
  rw [hp]
  obtain ⟨Wv, ⟨m0, w0⟩, turn⟩ := q p (I2.hok.fresh (Nat.le_of_eq hp))
  have I3 : Inv X pins σ (upd H2 p (SetSO X.prog X.w p [])) { s2 with heap := s2.heap.push (nSet X.w) } := I2.laid (t' := s2.toks) (fun b o e => Heap.get?_push_of_some _ e) (Nat.le_of_eq hp) (setSO_ok (setS_new (by rw [← hp]; exact Heap.get?_push_size _ rfl)))
  have f3 : ∀ b ∈ fp, FpOk X pins (upd H2 p (SetSO X.prog X.w p [])) b ∧ b < (s2.heap.push (nSet X.w)).objs.size := fun b hb => by
    obtain ⟨o, e, _⟩ := T.obj _ _ st2 b hb
    have lt := Heap.lt_size e
    exact ⟨⟨by rw [upd_ne (by rw [← hp]; exact Nat.ne_of_lt lt)]; exact (f2 b hb).1, (f2 b hb).2⟩, by rw [Heap.size_push]; exact Nat.lt_succ_of_lt lt⟩
  have st3 : tn 0 (s2.heap.push (nSet X.w)) := T.keep _ _ _ st2 fun b _ o e => Heap.get?_push_of_some _ e
  show codeAny _ _ (.compStart (.SetComp elt [⟨tg, iter, ifs, 0⟩] scope pos) 0 (.ref it) (.ref p) (compEnvC scope (cellsFrom ((s2.heap.push (nSet X.w)).objs.size + 1) scope.names (cloFrom X.env.cells scope.names [])) (s2.heap.push (nSet X.w)).objs.size X.env)) (compPost (model X.prog X.w) X.A X.xe use Qf (.ref p) (s2.heap.push (nSet X.w)).objs.size) { s2 with heap := pushCells ((s2.heap.push (nSet X.w)).push { cls := .type "dict", data := .dict #[] }) scope.names }
  generalize hs3 : ({ s2 with heap := s2.heap.push (nSet X.w) } : Shared) = s3 at I3
  have h3 : s2.heap.push (nSet X.w) = s3.heap := by rw [← hs3]
  have o3 : ({ s2 with heap := pushCells ((s2.heap.push (nSet X.w)).push { cls := .type "dict", data := .dict #[] }) scope.names } : Shared) = { s3 with heap := pushCells (s3.heap.push { cls := .type "dict", data := .dict #[] }) scope.names } := by rw [← hs3]
  rw [o3]
  rw [h3] at f3 st3 ⊢
  generalize hH3 : upd H2 p (SetSO X.prog X.w p []) = H3 at I3 w0 f3
  have I4 := block_start I3 ok hN f3
  have pg := hg s3 H3 s3.heap.objs.size (cellsFrom (s3.heap.objs.size + 1) scope.names (cloFrom X.env.cells scope.names [])) fp
  have pt := ht s3 H3 s3.heap.objs.size (cellsFrom (s3.heap.objs.size + 1) scope.names (cloFrom X.env.cells scope.names [])) fp
  have pe := he s3 H3 s3.heap.objs.size (cellsFrom (s3.heap.objs.size + 1) scope.names (cloFrom X.env.cells scope.names [])) fp
  generalize hce : compEnvC scope (cellsFrom (s3.heap.objs.size + 1) scope.names (cloFrom X.env.cells scope.names [])) s3.heap.objs.size X.env = ce at I4 pg pt pe ⊢
  have cL : ce.locals = s3.heap.objs.size := by subst hce; rfl
  generalize hs4 : ({ s3 with heap := pushCells (s3.heap.push { cls := .type "dict", data := .dict #[] }) scope.names } : Shared) = s4 at I4 ⊢
  have st4 : tn 0 s4.heap := T.keep _ _ _ st3 fun b _ o e => by rw [← hs4]; exact pushCells_keeps _ _ _ _ (Heap.get?_push_of_some _ e)
  have foot : ∀ {σ' : St} {H' : Hp} {s' : Shared}, Inv (X.blk s3 H3 scope ce fp) [] σ' H' s' → (∀ b ∈ fp, H' b = none) → ∀ b ∈ fp, FpOk (X.blk s3 H3 scope ce fp) [] H' b := fun {σ' H' s'} I' hn b hb =>
    ⟨hn b hb, (I'.ok.exf b hb).1, I'.ok.exfs b hb, .inl hb, fun x c e => (I'.ok.exf b hb).2 x c e, fun z hz => absurd (show z ∈ ([] : List (Addr × Obj)) ++ [] from hz) (by simp)⟩
  have loop : codeAny (model X.prog X.w) X.A (.compLoop (.SetComp elt [⟨tg, iter, ifs, 0⟩] scope pos) 0 (.ref it) (.ref p) ce) (compPost (model X.prog X.w) X.A X.xe use Qf (.ref p) s3.heap.objs.size) s4 := by
    refine PpSet.compLoopS_any (fun n s' => ∃ i H', Inv (X.blk s3 H3 scope ce fp) [] (wipe σ (own.map (·.2))) H' s' ∧ tn i s'.heap ∧ (∀ b ∈ fp, H' b = none) ∧ Wv i n H') ?_ m0 ⟨0, H3, I4, st4, fun b hb => (f3 b hb).1.1, w0⟩
    rintro n s5 ⟨i, H5, I5, st5, n5, w5⟩
    rcases turn i n H5 w5 with ⟨stop, qq⟩ | ⟨go, Nx, hNx, step⟩
    · refine thnF (T.done (X.blk s3 H3 scope ce fp) rfl rfl rfl hc i [] s5 _ H5 (fun _ _ => False) I5 (foot I5 n5) st5 stop) fun r s6 ⟨hr, I6⟩ => ?_
      subst hr
      have I7 : Inv X pins σ H5 s6 := I3.call' (ch := fp) I6.os I6.base I6.hok I6.bare fun b hb => ⟨(f3 b hb).1.2.2.2.1, (f3 b hb).1.2.1, (f3 b hb).1.2.2.2.2.1, (f3 b hb).1.2.2.2.2.2⟩
      have nC : H5 ce.locals = none := I6.free
      obtain ⟨m, hn, _⟩ := I6.loc
      have hn : s6.heap.Ns ce.locals m := hn
      rw [cL] at hn nC
      exact fin p s3.heap.objs.size s6 m H5 I7 qq hn (I3.fpOk (Nat.le_refl _) nC)
    · refine thnF (T.item (X.blk s3 H3 scope ce fp) rfl rfl rfl hc i [] s5 _ H5 (fun _ _ => False) I5 (foot I5 n5) st5 go) fun r s6 ⟨u, hr, h6⟩ => ?_
      subst hr
      refine thnF h6 fun _ s7 ⟨x, H7, I7, r7, y7, st7, n7⟩ => ?_
      refine thnF (pg.run _ s7 _ H7 x u _ (I7.pinned (foot I7 n7) (T.obj _ _ st7)) r7 (step x H7 y7)) fun _ s8 ⟨σ8, H8, I8, hw8, q8⟩ => ?_
      refine thnF (pt.run _ s8 σ8 H8 _ I8 q8) fun b s9 ⟨H9, I9, q9⟩ => ?_
      have next : ∀ {s' : Shared} {H' : Hp}, Inv (X.blk s3 H3 scope ce fp) ([] ++ pinsAt fp s7.heap) σ8 H' s' → Nx H' → ∃ m, m < n ∧ ∃ i H', Inv (X.blk s3 H3 scope ce fp) [] (wipe σ (own.map (·.2))) H' s' ∧ tn i s'.heap ∧ (∀ b ∈ fp, H' b = none) ∧ Wv i m H' := fun {s' H'} I' nx => by
        obtain ⟨m', hm, w'⟩ := hNx H' nx
        have pin' : ∀ b ∈ fp, ∀ o, s7.heap.get? b = some o → s'.heap.get? b = some o ∧ H' b = none := fun b hb o e =>
          let z := I'.pin (b, o) (List.mem_append_right _ (List.mem_append_right _ (mem_pinsAt hb e)))
          ⟨z.1, z.2.1⟩
        refine ⟨m', hm, i + 1, H', (I'.unpinned (pins := [])).weak (by rw [← hw8, wipe_length]) (fun j v e => by rw [← hw8] at e; exact (wipe_some e).1), T.keep _ _ _ st7 fun b hb o e => (pin' b hb o e).1, fun b hb => ?_, w'⟩
        obtain ⟨o, e, _⟩ := T.obj _ _ st7 b hb
        exact (pin' b hb o e).2
      cases b with
      | false =>
        simp only [Bool.false_eq_true, if_false] at q9 ⊢
        exact next I9 q9
      | true =>
        simp only [if_true] at q9 ⊢
        refine thnF (pe.run _ s9 σ8 H9 _ I9 q9) fun z s10 ⟨yv, H10, I10, r10, y, ys, ey, hp10, few, nx⟩ => ?_
        subst ey
        obtain ⟨tk, rfl⟩ : ∃ tk, z = Value.str (tx y) tk := r10
        exact addS_ok (X := X.blk s3 H3 scope ce fp) I10 hp10 few fun s11 I11 => next I11 nx
  exact PpSet.codeAny_compStart_set loop (T.self X.A 0 _ _ _ st4 loop)
theorem pe_st {elt tg iter : Expr} {ifs : List Expr} {scope : Scope} {own : List (Str × Nat)} {pos : Pos} {wi : TI} {g : TG} {tt : TT} {te : TE} (hc : X.calm = true) (hN : X.N.Nodup) (hi : PI X tg iter wi) (ok : BlkOk X.N X.env.scope scope own)
    (hg : ∀ (s : Shared) (H : Hp) (C : Addr) (cl : List (Str × Addr)) (fp : List Addr), PG (X.blk s H scope (compEnvC scope cl C X.env) fp) tg g) (ht : ∀ (s : Shared) (H : Hp) (C : Addr) (cl : List (Str × Addr)) (fp : List Addr), PTs (X.blk s H scope (compEnvC scope cl C X.env) fp) ifs tt)
    (he : ∀ (s : Shared) (H : Hp) (C : Addr) (cl : List (Str × Addr)) (fp : List Addr), PE (X.blk s H scope (compEnvC scope cl C X.env) fp) elt te) (hs : ∀ x, foldedSetIterable iter X.env x = pure x := by intro _; rfl) :
    PE X (.SetComp elt [⟨tg, iter, ifs, 0⟩] scope pos) (tSt X.prog X.w wi g tt te (own.map (·.2))) := by
  refine ⟨fun pins s σ H Q I h => ?_⟩
  rw [PpSet.eval_SetComp]
  refine st_core hc hN I hi ok hg ht he hs h fun p C s' m H' I' q hn f => ⟨m, hn, fun h'' sb => ?_⟩
  obtain ⟨f0, f1, f2, f3, f4, f5⟩ := f
  exact ⟨.ref p, H', I'.turned (t' := s'.toks) (fun b o hb e => (sb.2 b hb).trans e) f0 f1 f3 f4 f5, rfl, q⟩
end
end DL

/-! DL: set comprehensions of texts: what is asked of them. -/
namespace DL
open PySem PySem.Spec L2
open PyProof.Rows hiding St
theorem lcGo_ext {chk : MS → Prop} {g : MG} {tt : MB} {te : ME} {w : SD} : ∀ {xs acc : List D} {M M2 : MS} {ds : List D}, lcGo chk g tt te w xs acc M = .ok ds M2 → ∃ t, ds = acc ++ t
  | [], acc, M, M2, ds, h => by
    unfold lcGo at h
    split at h
    · cases h; exact ⟨[], by simp⟩
    · cases h
  | d :: r, acc, M, M2, ds, h => by
    unfold lcGo at h
    split at h
    · cases hg : g d w with
      | none => rw [hg] at h; cases h
      | some sd1 =>
        rw [hg] at h
        dsimp only at h
        cases ht : tt sd1 M with
        | exc C ns ds M3 => rw [ht] at h; cases h
        | stuck => rw [ht] at h; cases h
        | ok b M3 =>
          rw [ht, Res.ne_ok, Res.bind_ok] at h
          cases b with
          | false => rw [if_neg Bool.false_ne_true] at h; exact lcGo_ext h
          | true =>
            rw [if_pos rfl] at h
            cases hte : te sd1 M3 with
            | exc C ns ds M4 => rw [hte] at h; cases h
            | stuck => rw [hte] at h; cases h
            | ok y M4 =>
              rw [hte, Res.ne_ok, Res.bind_ok] at h
              split at h
              · obtain ⟨t, e⟩ := lcGo_ext h
                exact ⟨y :: t, by rw [e]; simp⟩
              · cases h
    · cases h
theorem dedT_snoc (ys : List (List Nat)) (x : List Nat) : dedT (ys ++ [x]) = insT (dedT ys) x := by
  unfold dedT
  rw [List.foldl_append]
  rfl
/-- {elt for target in iter if ..} -/
noncomputable def scR (mi : MI) (g : MG) (tt : MB) (te : ME) (vs : List Nat) : MT := fun sd M => (mi sd M).bind fun it M1 => (lcGo it.chk g tt te (wipeD sd vs) it.ds [] M1).ne.bind fun ds M2 => match stsOf ds with
  | some xs => if xs.length < 4000 then .ok (dedT xs) M2 else .stuck
  | none => .stuck
section
variable {X : Cx} {W : WX}
theorem st_turns {P : Program} {w0 : World} {K : PySem.W.Frag} {mg : Str → Option Value} {it : ItD} {J : It} {ro1 : Pl} {H1 : Hp} {M1 : MS} {sd : SD} {st : St} {g : MG} {ix vs : List Nat} {tt : MB} {te : ME} {Q : VK} (hix : ∀ i, i ∈ ix → i ∈ vs)
    (R1 : RelS K mg ro1 M1 H1) (S1 : RepSt K mg ro1 H1 sd st) (J1 : IterOk K mg ro1 H1 it J) {p : Addr} (hp : H1 p = none)
    (fin : ∃ (xs : List (List Nat)) (M2 : MS), xs.length < 4000 ∧ lcGo it.chk g tt te (wipeD sd vs) it.ds [] M1 = .ok (xs.map D.str) M2 ∧ ∀ ro' H', RelS K mg ro' M2 H' → Within ro1 H1 p ro' H' → H' p = some (SetSO P w0 p (dedT xs)) → Q (.ref p) H') :
    ∃ Wv : Nat → Nat → Hp → Prop, (∃ m, Wv 0 m (upd H1 p (SetSO P w0 p []))) ∧ ∀ i m H, Wv i m H →
      (J.stop i H ∧ Q (.ref p) H) ∨ (J.go i H ∧ ∃ Nx : Hp → Prop, (∀ H', Nx H' → ∃ m', m' < m ∧ Wv (i + 1) m' H') ∧ ∀ x H', J.yld i H x H' → liftG K mg g ix x (wipe st vs) H' fun s2 H2 => wipe s2 vs = wipe st vs ∧ liftB K mg W0 tt s2 H2 fun b H3 =>
        if b = true then liftE K mg W0 te s2 H3 fun y H4 => ∃ (x : List Nat) (xs : List (List Nat)), y = .str (tx x) ∧ H4 p = some (SetSO P w0 p xs) ∧ xs.length + 1 < scanBound ∧ Nx (upd H4 p (SetSO P w0 p (insT xs x))) else Nx H3) := by
  obtain ⟨xs, M2, few, hrun, fin⟩ := fin
  refine ⟨fun i m H' => m = it.ds.length - i ∧ i ≤ it.ds.length ∧ ∃ ro' M' ys, RelS K mg ro' M' H' ∧ Within ro1 H1 p ro' H' ∧ H' p = some (SetSO P w0 p (dedT ys)) ∧ lcGo it.chk g tt te (wipeD sd vs) (it.ds.drop i) (ys.map D.str) M' = .ok (xs.map D.str) M2,
    ⟨_, rfl, Nat.zero_le _, ro1.hide p, M1, [], R1.hide hp, ⟨rfl, ⟨[], by simp⟩, fun a o h _ => upd_grow hp a o h, fun a h => .inl h⟩, upd_same, hrun⟩, ?_⟩
  rintro i m H' ⟨rfl, hle, ro', M', ys, R', Wi, hpl, hr⟩
  have mem : p ∈ ro'.hid := by rw [Wi.hid]; exact List.mem_cons_self
  by_cases hlt : i < it.ds.length
  · have hd : it.ds.drop i = it.ds[i] :: it.ds.drop (i + 1) := List.drop_eq_getElem_cons hlt
    rw [hd] at hr
    unfold lcGo at hr
    by_cases hc : it.chk M'
    · rw [if_pos hc] at hr
      obtain ⟨_, hJ⟩ := J1 ro' H' M' R' (Wi.w hp) hc
      obtain ⟨hgo, hy⟩ := hJ i _ (List.getElem?_eq_getElem hlt)
      refine .inr ⟨hgo, fun H2 => ∃ ro2 M3 ys, RelS K mg ro2 M3 H2 ∧ Within ro1 H1 p ro2 H2 ∧ H2 p = some (SetSO P w0 p (dedT ys)) ∧ lcGo it.chk g tt te (wipeD sd vs) (it.ds.drop (i + 1)) (ys.map D.str) M3 = .ok (xs.map D.str) M2,
        fun H2 ⟨ro2, M3, ys, a, b, c, e⟩ => ⟨it.ds.length - (i + 1), by omega, rfl, hlt, ro2, M3, ys, a, b, c, e⟩, fun x H'' y => ?_⟩
      obtain ⟨hgrow, hrep⟩ := hy x H'' y
      obtain ⟨R'', P''⟩ := R'.grow hgrow
      cases hgd : g it.ds[i] (wipeD sd vs) with
      | none => rw [hgd] at hr; cases hr
      | some sd1 =>
        rw [hgd] at hr
        dsimp only at hr
        have S'' : RepSt K mg ro' H'' (wipeD sd vs) (wipe st vs) := ((S1.monoW (Wi.w hp)).mono P'').wipe vs
        refine ⟨ro', wipeD sd vs, M', _, R'', S'', hrep, sd1, hgd, fun st1 Sd1 hw => ⟨by rw [hw vs hix]; exact (List.ext_getElem? fun j => by rw [wipe_get, wipe_get, wipe_length]; split <;> rfl), ?_⟩⟩
        refine ⟨ro', sd1, M', R'', Sd1, ?_⟩
        cases ht : tt sd1 M' with
        | exc C ns ds M3 => rw [ht] at hr; cases hr
        | stuck => rw [ht] at hr; cases hr
        | ok b M3 =>
          rw [ht, Res.ne_ok, Res.bind_ok] at hr
          rintro ro3 H3 b' R3 P3 rfl
          have W3 := (Wi.step P'').step P3
          have hp3 : H3 p = some (SetSO P w0 p (dedT ys)) := P3.keep p _ (P''.keep p _ hpl fun z => R'.dis p z mem) fun z => R''.dis p z mem
          cases b' with
          | false =>
            rw [if_neg Bool.false_ne_true] at hr ⊢
            exact ⟨ro3, M3, ys, R3, W3, hp3, hr⟩
          | true =>
            rw [if_pos rfl] at hr ⊢
            refine ⟨ro3, sd1, M3, R3, Sd1.mono P3, ?_⟩
            cases hte : te sd1 M3 with
            | exc C ns ds M4 => rw [hte] at hr; cases hr
            | stuck => rw [hte] at hr; cases hr
            | ok y M4 =>
              rw [hte, Res.ne_ok, Res.bind_ok] at hr
              intro ro4 H4 yv R4 P4 ry
              split at hr
              · have mem4 : p ∈ ro4.hid := by rw [P4.hid, P3.hid]; exact mem
                have hp4 : H4 p = some (SetSO P w0 p (dedT ys)) := P4.keep p _ hp3 fun z => R3.dis p z (by rw [P3.hid]; exact mem)
                obtain ⟨t, et⟩ := lcGo_ext hr
                have hxs : ∃ x, y = .str x ∧ ys.length < xs.length := by
                  have e1 : (xs.map D.str)[ys.length]? = some y := by rw [et, List.append_assoc, List.getElem?_append_right (by simp)]; simp
                  rw [List.getElem?_map] at e1
                  cases e2 : xs[ys.length]? with
                  | none => rw [e2] at e1; cases e1
                  | some x =>
                    rw [e2] at e1
                    cases e1
                    exact ⟨x, rfl, (List.getElem?_eq_some_iff.mp e2).1⟩
                obtain ⟨x, rfl, hyl⟩ := hxs
                have hv : yv = .str (tx x) := ry
                subst hv
                have lb : scanBound = 4096 := rfl
                refine ⟨x, dedT ys, rfl, hp4, by have := dedT_len ys; omega, ro4, M4, ys ++ [x], R4.unseen mem4, (W3.step P4).put hp, ?_, by simpa using hr⟩
                rw [dedT_snoc]
                exact upd_same
              · cases hr
    · rw [if_neg hc] at hr; cases hr
  · have e : i = it.ds.length := by omega
    subst e
    rw [List.drop_length] at hr
    unfold lcGo at hr
    by_cases hc : it.chk M'
    · rw [if_pos hc] at hr
      injection hr with hr1 hr2
      subst hr2
      have : ys = xs := by
        have := congrArg stsOf hr1
        rw [stsOf_map, stsOf_map] at this
        exact Option.some.inj this
      subst this
      exact .inl ⟨(J1 ro' H' _ R' (Wi.w hp) hc).1, fin ro' H' R' Wi hpl⟩
    · rw [if_neg hc] at hr; cases hr
section
variable {elt tg iter : Expr} {ifs : List Expr} {scope : Scope} {own : List (Str × Nat)} {pos spos : Pos} {mi : MI} {g : MG} {ix : List Nat} {tt : MB} {te : ME}
theorem st_tree {st : St} {H : Hp} {Q : VK} {vs : List Nat} (hix : ∀ i, i ∈ ix → i ∈ vs) (q : liftT X W (scR mi g tt te vs) st H Q) : tSt X.prog X.w (liftI X.K X.mg W mi) (liftG X.K X.mg g ix) (liftB X.K X.mg W0 tt) (liftE X.K X.mg W0 te) vs st H Q := by
  obtain ⟨ro, sd, M, R, S, P⟩ := q
  refine ⟨ro, sd, M, R, S, (Post.bind P).imp fun J H1 ⟨ro1, M1, it, R1, P1, J1, q1⟩ => fun p hp => ?_⟩
  refine st_turns hix R1 (S.mono P1) J1 hp ?_
  cases hrun : lcGo it.chk g tt te (wipeD sd vs) it.ds [] M1 with
  | stuck => rw [hrun] at q1; exact q1.elim
  | exc C ns ds M2 => rw [hrun] at q1; exact q1.elim
  | ok ds M2 =>
    rw [hrun, Res.ne_ok, Res.bind_ok] at q1
    split at q1
    · rename_i xs hx
      split at q1
      · rename_i few
        refine ⟨xs, M2, few, by rw [stsOf_eq hx], fun ro' H' R' Wi hpl => ?_⟩
        have mem : p ∈ ro'.hid := by rw [Wi.hid]; exact List.mem_cons_self
        refine q1 _ H' (.ref p) (R'.shown' Wi.hid) Wi.out ⟨p, rfl, hpl, fun m => ?_⟩
        rcases List.mem_append.mp m with m | m
        · exact R'.dis p m mem
        · exact R1.liveN p m hp
      · exact q1.elim
    · exact q1.elim
variable (hc : X.calm = true) (hN : X.N.Nodup) (hi : DI X W tg iter mi) (ok : BlkOk X.N X.env.scope scope own) (hix : ∀ i, i ∈ ix → i ∈ own.map (·.2))
    (hg : ∀ (s : Shared) (H : Hp) (C : Addr) (cl : List (Str × Addr)) (fp : List Addr), DG (X.blk s H scope (compEnvC scope cl C X.env) fp) tg g ix) (ht : ∀ (s : Shared) (H : Hp) (C : Addr) (cl : List (Str × Addr)) (fp : List Addr), DTs (X.blk s H scope (compEnvC scope cl C X.env) fp) W0 ifs tt)
    (he : ∀ (s : Shared) (H : Hp) (C : Addr) (cl : List (Str × Addr)) (fp : List Addr), DE (X.blk s H scope (compEnvC scope cl C X.env) fp) W0 elt te)
include hc hN hi ok hix hg ht he
theorem dz_sc (hs : ∀ x, foldedSetIterable iter X.env x = pure x := by intro _; rfl) : DZ X W (.SetComp elt [⟨tg, iter, ifs, 0⟩] scope pos) (scR mi g tt te (own.map (·.2))) :=
  ⟨⟨fun pins s st H Q I q => (pe_st hc hN hi.pi ok (fun a b c d e => (hg a b c d e).pg) (fun a b c d e => (ht a b c d e).pts) (fun a b c d e => (he a b c d e).pe) hs).run pins s st H Q I (st_tree hix q)⟩⟩
end
end
section
variable {sd : SD} {M : MS} {ds : List D} {mi : MI} {g : MG} {tt : MB} {te : ME} {vs : List Nat}
noncomputable def scK (g : MG) (tt : MB) (te : ME) (vs : List Nat) (sd : SD) : ItD → MS → Res (List (List Nat)) := fun it M1 => (lcGo it.chk g tt te (wipeD sd vs) it.ds [] M1).ne.bind fun ds M2 => match stsOf ds with
  | some xs => if xs.length < 4000 then .ok (dedT xs) M2 else .stuck
  | none => .stuck
theorem scR_ap : scR mi g tt te vs sd M = (mi sd M).bind (scK g tt te vs sd) := rfl
theorem scK_ap {it : ItD} {M2 : MS} {xs : List (List Nat)} (h : lcGo it.chk g tt te (wipeD sd vs) it.ds [] M = .ok (xs.map D.str) M2) (hl : xs.length < 4000) : scK g tt te vs sd it M = .ok (dedT xs) M2 := by
  unfold scK
  rw [h]
  simp [hl]
end
/-- sorted(a set of texts), a list that changes -/
def sortZC (m : MT) : ME := fun sd M => (m sd M).bind fun xs M1 => .ok (.cell M1.length) (M1 ++ [.lst ((sortT xs).map D.str)])
section
variable {X : Cx} {W : WX} {e : Expr} {m : MT} {p pos : Pos}
theorem de_sortZC (calm : X.calm = true) (hg : Gl X "sorted") (hm : X.mg "sorted" = none) (he : DZ X W e m) (hs : starEach [e] X.env = (false, eval e X.env) :: starEach [] X.env := by rfl) : DE X W (.Call (.Name "sorted" p) [e] [] pos) (sortZC m) := by
  refine ⟨⟨fun pins s st H Q I z => (pe_callB (cr_sortT calm) hg hm boot_sorted (pa_cons he.pe pa_nil hs) (by decide) (by decide) hs (by rfl)).run pins s st H Q I ?_⟩⟩
  obtain ⟨ro, sd, M, R, S, P⟩ := z
  refine ⟨ro, sd, M, R, S, (Post.bind P).imp fun x H1 ⟨ro1, M1, xs, R1, P1, ⟨a, ea, ha, _⟩, q1⟩ => ?_⟩
  refine ⟨a, xs, by rw [ea], ha, fun p0 hp => ?_⟩
  rw [List.map_map]
  exact PostD.newC R1 (map_reps (g := D.str) (v := V.str ∘ tx) (fun _ => rfl) _) q1 p0 hp
theorem sortZC_ap {sd : SD} {M : MS} : sortZC m sd M = (m sd M).bind fun xs M1 => .ok (.cell M1.length) (M1 ++ [.lst ((sortT xs).map D.str)]) := rfl
end
/-! ### == through places -/
section
variable {M : MS} {neg : Bool}
theorem pyN_cell {n k : Nat} {ds : List D} (h : M[k]? = some (.lst ds)) : pyN n M (.cell k) = pyN n M (.lst ds) := by
  cases n with
  | zero => rfl
  | succ n =>
    show (match M[k]? with | some (.lst ds) => (mapO (pyN n M) ds).map PyData.list | _ => none) = _
    rw [h]
    rfl
theorem pyN_lst {n : Nat} : ∀ {ds es : List D}, ds.length = es.length → (∀ (i : Nat) (d e : D), ds[i]? = some d → es[i]? = some e → ∀ m, pyN m M d = pyN m M e) → pyN n M (.lst ds) = pyN n M (.lst es) := by
  intro ds es hl h
  cases n with
  | zero => rfl
  | succ n =>
    show (mapO (pyN n M) ds).map PyData.list = (mapO (pyN n M) es).map PyData.list
    congr 1
    induction ds generalizing es with
    | nil => cases es with
      | nil => rfl
      | cons e es => cases hl
    | cons d ds ih => cases es with
      | nil => cases hl
      | cons e es =>
        unfold mapO
        rw [h 0 d e rfl rfl n, ih (by simpa using hl) fun i d e h1 h2 => h (i + 1) d e h1 h2]
/-- two data that read alike are compared alike -/
theorem eqD_via {d e d' e' : D} (h1 : pyD M d = pyD M d') (h2 : pyD M e = pyD M e') (n1 : eqSc d e = none) (n2 : eqSc d' e' = none) : eqD neg d e M = eqD neg d' e' M := by
  unfold eqD
  rw [n1, n2]
  simp only [Option.isSome_none, Bool.false_eq_true, if_false]
  unfold eqP
  rw [h1, h2]
end
end DL

/-! DL: defs with a star parameter. -/
namespace DL
open PySem PySem.Spec L2
open PyProof.Rows hiding St
/-- n arguments, and the tuple of the others -/
def packV (n : Nat) (ds : List D) : List D := ds.take n ++ [.tup (ds.drop n)]
def vF (n : Nat) (F : FM) : FM := fun ds M => if n ≤ ds.length ∧ ds.length ≤ 1000 then F (packV n ds) M else .stuck
def spV (K : PySem.W.Frag) (mg : Str → Option Value) (F : FM) : Sp := fun vs H Q E => ∃ ro ds M, RelS K mg ro M H ∧ Reps K mg ro H ds vs ∧ PostD K mg E ro H Q (F ds M)
section
variable {P : Program} {w : World} {K : PySem.W.Frag} {mg : Str → Option Value} {base : Heap}
abbrev DOkV (P : Program) (w : World) (K : PySem.W.Frag) (mg : Str → Option Value) (base : Heap) (k : Nat) (f : Addr) (F : FM) : Prop := FnR P w K mg base (L2.CX P w) k f (spV K mg F)
/-- what a def with a star parameter binds -/
def BindV (K : PySem.W.Frag) (fd : FuncData) (ps : List Str) (pv : Str) : Prop := ∀ us rest : List Value, us.length = ps.length → bindArgs fd ⟨us ++ rest, []⟩ = (newTuple rest >>= fun t => pure (ps.zip us ++ [(pv, t)]))
theorem funV_ok {x qual : Str} {st : Stmt} {dvs : List V} {kws : List (Str × V)} {f : Addr} {fd : FuncData} {N ps : List Str} {pv : Str} {k : Nat} {body : MST} (Fn : FnP K x qual st dvs kws f fd) (S : FnScope N (ps ++ [pv]) (defScope st)) (hb : BindV K fd ps pv)
    (hbody : ∀ (cdv : Value) (A : Around) (outer : List Env) (s : Shared) (H : Hp) (E : XK), Room k (A.deeper (envOfC qual (defScope st) s.heap.objs.size f cdv)) →
      Ctx (cxOf (L2.CX P w) P w K mg base N qual (defScope st) f cdv A outer s H E) (fun cls d _ H' => E cls d H') →
      DSs (cxOf (L2.CX P w) P w K mg base N qual (defScope st) f cdv A outer s H E) (fun cls d _ H' => E cls d H') (defBody st) body) : DOkV P w K mg base (k + 1) f (vF ps.length (runD N.length body)) := by
  obtain ⟨oc, od, dV, kV, doc, pm, an, cdv, ct, osl, rfl, lk, hcd, _, _⟩ := Fn.ex
  have main := StX.fn_star (P := P) (w := w) (K := K) (mg := mg) (base := base) (CX := L2.CX P w) (k := k) (sp := spD K mg (ps.length + 1) (runD N.length body)) lk hcd S StX.cxUp hb (fun A outer s H vs Q E hr h => by
    obtain ⟨hl, ro, ds, M, R, rs, Po⟩ := h
    have hc : Ctx (cxOf (L2.CX P w) P w K mg base N qual (defScope st) f cdv A outer s H E) (fun cls d _ H' => E cls d H') := ⟨takes_of rfl rfl rfl rfl, passes_of rfl, rfl⟩
    refine ⟨_, (hbody cdv A outer s H E hr hc).ps, ro, startD N.length ds, M, R, repSt_start rs, ?_⟩
    unfold runD at Po
    cases e : body (startD N.length ds) M with
    | nx sd M' => rw [e] at Po; exact fun ro' H' st rs q r => Po ro' H' .non rs q rfl
    | ret d M' => rw [e] at Po; exact Po
    | exc C ns ds' sd M' => rw [e] at Po; exact fun ro' H' st cls dd rs q _ r => Po ro' H' cls dd rs q r
    | brk sd M' => rw [e] at Po; exact Po.elim
    | ct sd M' => rw [e] at Po; exact Po.elim
    | stuck => rw [e] at Po; exact Po)
  intro A outer s H us vs Q E hr e0 r ⟨ro, ds, M, R, rs, Po⟩
  refine main A outer s H us vs Q E hr e0 r ?_
  unfold vF at Po
  split at Po
  · rename_i hl
    have ln := rs.len
    have r1 := Reps.take ps.length rs
    have r2 := Reps.drop ps.length rs
    refine ⟨vs.take ps.length, vs.drop ps.length, (List.take_append_drop _ _).symm, by rw [List.length_take]; omega, by rw [List.length_drop, sizeLine_eq]; omega, fun p hp => ?_⟩
    obtain ⟨R2, P2⟩ := R.alloc (o := .tup (vs.drop ps.length)) hp
    refine ⟨by rw [List.length_append, List.length_take]; simp; omega, ro, packV ps.length ds, M, R2, ?_, Post.moves Po P2⟩
    refine (Reps.mono P2 _ _ r1).append (Reps.one ?_)
    exact ⟨p, vs.drop ps.length, rfl, .inl ⟨.inl upd_same, R.fresh hp⟩, Reps.mono P2 _ _ r2⟩
  · exact Po.elim
end
section
variable {X : Cx} {W : WX} {F : FM} {k : Nat} {f : Addr}
/-- C(..) where C.__init__ has a star parameter -/
theorem run_mkV {C : String} {c : Addr} {fs : List String} {pins : List (Addr × Obj)} {st : St} {H : Hp} {s : Shared} {Q : VK} {us : List Value} {vs : List V} {ro : Pl} {ds : List D} {M : MS} (ci : CInfo X.K X.mg C c fs) (Mk' : Mk X.K c f)
    (hF : DOkV X.prog X.w X.K X.mg X.base k f F) (hr : Room (k + 1) X.A) (tk : Takes X W) (I : Inv X pins st H s) (r : Vals vs us) (R : RelS X.K X.mg ro M H)
    (rs : Reps X.K X.mg ro H ds vs) (P : PostD X.K X.mg (fun c d H' => W c d st H') ro H Q (mkD C F ds M)) : wpAny (model X.prog X.w) X.A (call (.ref c) us []) (EP X pins st Q) X.xe s := by
  have n1 : H (s.heap.objs.size + 1) = none := I.hok.fresh (Nat.le_succ _)
  have n2 : H s.heap.objs.size = none := I.hok.fresh (Nat.le_refl _)
  have ne : s.heap.objs.size ≠ s.heap.objs.size + 1 := Nat.ne_of_lt (Nat.lt_succ_self _)
  have I2 := Inv.made (C := c) I
  obtain ⟨Ra, Pa⟩ := R.alloc (o := .own (s.heap.objs.size + 1)) n2
  have n3 : upd H s.heap.objs.size (.own (s.heap.objs.size + 1)) (s.heap.objs.size + 1) = none := by rw [upd_ne ne.symm]; exact n1
  obtain ⟨Rb, Pb⟩ := Ra.allocM (mo := .obj C [] []) (o := .ins c s.heap.objs.size []) n3 ⟨c, _, [], rfl, ci.mgC, rfl, rfl⟩
  have r2 : Vals (V.ref (s.heap.objs.size + 1) :: vs) (Value.ref (s.heap.objs.size + 1) :: us) := .cons rfl r
  have rs2 : Reps X.K X.mg (ro.add (s.heap.objs.size + 1)) _ (D.cell M.length :: ds) (V.ref (s.heap.objs.size + 1) :: vs) :=
    ⟨_, _, rfl, ⟨_, rfl, by show (ro.ro ++ [_])[M.length]? = _; rw [← R.len, List.getElem?_append_right (Nat.le_refl _)]; simp⟩, Reps.mono Pb _ _ (Reps.mono Pa _ _ rs)⟩
  have P2 := Post.moves (Post.moves P Pa) Pb
  refine wpAny_call (make_map (f := f) I.kIn Mk'.makes Mk'.init (beq_iff_eq.mp Mk'.fn) (codeAny_mono (hF _ X.stack _ _ (Value.ref (s.heap.objs.size + 1) :: us) _
    (fun v H2 => v = .non ∧ Q (.ref (s.heap.objs.size + 1)) H2) (WE W st) (hr.make c us []) (I2.env0.make c us []) r2 ⟨_, _, _, Rb, rs2, ?_⟩) fun r s' hq' => ?_))
  · unfold mkD at P2
    cases e : F (.cell M.length :: ds) (M ++ [.obj C [] []]) with
    | stuck => rw [e] at P2; exact P2
    | exc C' ns es M' => rw [e] at P2; exact P2
    | ok d M' =>
      rw [e, Res.bind_ok] at P2
      cases d with
      | non =>
        intro ro' H' v R' P' rv
        cases (show v = V.non from rv)
        refine ⟨rfl, P2 ro' H' _ R' P' ⟨_, rfl, P'.get ?_⟩⟩
        show (ro.ro ++ [_])[M.length]? = _
        rw [← R.len, List.getElem?_append_right (Nat.le_refl _)]; simp
      | _ => exact P2.elim
  · cases r with
    | error e => exact passAt tk st pins _ _ e s' I2 hq'
    | ok fl =>
      cases fl with
      | ret u =>
        obtain ⟨v, H', I3, rv, ev, q3⟩ := I2.after hq'
        subst ev
        exact ⟨rv, ⟨V.ref (s.heap.objs.size + 1), H', I3, rfl, q3⟩⟩
      | next => exact False.elim hq'
      | brk => exact False.elim hq'
      | cont => exact False.elim hq'
def callVE (G : FM) (ma : MA) : ME := fun sd M => (ma sd M).bind fun ds M1 => G ds M1
variable {e : Expr} {es : List Expr} {ma : MA} {p pos : Pos}
theorem de_mkV {C : String} {c : Addr} {fs : List String} {G : FM} (hG : MkAs X C F G) (ci : CInfo X.K X.mg C c fs) (Mk' : Mk X.K c f) (hF : DOkV X.prog X.w X.K X.mg X.base k f F) (hr : Room (k + 1) X.A) (tk : Takes X W) (hg : Gl X (Str.ofString C)) (ha : DA X W (e :: es) ma)
    (hdb : (Str.ofString C == ("__debug__" : Str)) = false := by decide) (he : starEach (e :: es) X.env = (false, eval e X.env) :: starEach es X.env := by rfl) (hpl : (backTo pos (starEach es X.env)).any (·.1) = false := by rfl) :
    DE X W (.Call (.Name (Str.ofString C) p) (e :: es) [] pos) (callVE G ma) := by
  refine ⟨⟨fun pins s st H Q I q => ?_⟩⟩
  obtain ⟨ro, sd, M, R, S, P⟩ := q
  refine wpAny_Call_Name_kw (ld_glob I hg ci.mgC ?_ hdb)
  refine PySem.W.callWith_K (h₀ := X.base) I.ok.mod.kin Mk'.kp (thn (ha.pa.run pos pins s st H _ I ⟨ro, sd, M, R, S, Post.bind P⟩) fun us s1 ⟨vs, H1, I1, r, ro1, M1, ds, R1, P1, r1, q1⟩ => ⟨I1.kIn, ?_⟩) he hpl
  exact run_mkV ci Mk' hF hr tk I1 r R1 r1 (hG _ _ _ _ _ _ R1 q1)
/-- C(*e) -/
def starE (G : FM) (m : ME) : ME := fun sd M => (m sd M).bind fun d M1 => match seqOf M1 d with
  | some ds => G ds M1
  | none => .stuck
theorem de_mkS {C : String} {c : Addr} {fs : List String} {G : FM} {m : ME} {sp_ : Pos} (hG : MkAs X C F G) (ci : CInfo X.K X.mg C c fs) (Mk' : Mk X.K c f) (hF : DOkV X.prog X.w X.K X.mg X.base k f F) (hr : Room (k + 1) X.A) (tk : Takes X W) (hg : Gl X (Str.ofString C)) (he : DE X W e m)
    (hdb : (Str.ofString C == ("__debug__" : Str)) = false := by decide) (hst : starEach [.Starred e sp_] X.env = [(true, eval e X.env)] := by rfl) :
    DE X W (.Call (.Name (Str.ofString C) p) [.Starred e sp_] [] pos) (starE G m) := by
  refine ⟨⟨fun pins s st H Q I q => ?_⟩⟩
  obtain ⟨ro, sd, M, R, S, P⟩ := q
  refine wpAny_Call_Name_kw (ld_glob I hg ci.mgC ?_ hdb)
  refine PySem.W.callWith_S (h₀ := X.base) I.ok.mod.kin Mk'.kp (thn (he.pe.run pins s st H _ I ⟨ro, sd, M, R, S, Post.bind P⟩) fun v s1 ⟨y, H1, I1, ry, ro1, M1, d, R1, P1, r1, q1⟩ => ?_) hst
  split at q1
  · rename_i ds hs
    obtain ⟨a, xs, rfl, hx, rs⟩ := seq_of R1 r1 hs
    obtain rfl : v = Value.ref a := ry
    exact StX.star_any I1 hx.symm fun us s2 I2 rv => ⟨I2.kIn, run_mkV ci Mk' hF hr tk I2 rv R1 rs (hG _ _ _ _ _ _ R1 q1)⟩
  · exact q1.elim
theorem de_mkV0 {C : String} {c : Addr} {fs : List String} {G : FM} (hG : MkAs X C F G) (ci : CInfo X.K X.mg C c fs) (Mk' : Mk X.K c f) (hF : DOkV X.prog X.w X.K X.mg X.base k f F) (hr : Room (k + 1) X.A) (tk : Takes X W) (hg : Gl X (Str.ofString C))
    (hdb : (Str.ofString C == ("__debug__" : Str)) = false := by decide) : DE X W (.Call (.Name (Str.ofString C) p) [] [] pos) (callVE G nilA) := by
  refine ⟨⟨fun pins s st H Q I q => ?_⟩⟩
  obtain ⟨ro, sd, M, R, S, P⟩ := q
  refine wpAny_Call_Name_kw (ld_glob I hg ci.mgC ?_ hdb)
  refine PySem.W.callWith_K0 I.kIn Mk'.kp ?_
  exact run_mkV (ds := []) (vs := []) ci Mk' hF hr tk I .nil R rfl (hG _ _ _ _ _ _ R P)
end
end DL

/-! DL: == of lists whose items have their own ==. -/
namespace GQ2
open PySem PySem.SeqAt
open AutoSeq1 (wpAny_loadPart')
open MeetsSeq MeetsSeq2 MeetsSeq3 SeqRoads2
section
variable {prog : Program} {w : World} {A : Around} {R : Result → Shared → Prop}
/-- two lists of N items each -/
def Two (l b : Addr) (N : Nat) (s : Shared) (items items2 : Array Value) : Prop := (∃ n n2 : Nat, s.heap.get? l = some { cls := .type "list", data := .seq items n } ∧ s.heap.get? b = some { cls := .type "list", data := .seq items2 n2 }) ∧ items.size = N ∧ items2.size = N
def ListB (prog : Program) (w : World) (A : Around) (E : Value → Shared → Prop) (l b : Addr) (N : Nat) (I : Nat → Shared → Prop) (Z : Shared → Prop) : Prop :=
  ∀ i s, I i s → ∃ (items items2 : Array Value), Two l b N s items items2 ∧
    ∀ (h1 : i < items.size) (h2 : i < items2.size), wpAny (model prog w) A.in1 (eqBool items[i] items2[i]) (fun r s' => (r = true ∧ I (i + 1) s') ∨ (r = false ∧ Z s' ∧ ∃ items items2, Two l b N s' items items2)) E s
theorem eq_loopB (l b : Addr) (N : Nat) (I : Nat → Shared → Prop) (Z : Shared → Prop) (hl : ListB prog w A (fun e s' => R (.error e) s') l b N I Z)
    (fin : ∀ s, I N s → R (.ok (.ret (.bool true))) s) (stop : ∀ s, Z s → R (.ok (.ret (.bool false))) s) (k : Nat) :
    ∀ i : Nat, N - i = k → i ≤ N → ∀ s, I i s →
      wpAny (model prog w) A.in1 (Builtin.«list.__eq__.loop» ⟨[.ref l, .ref b, rawInt i, rawInt 2], []⟩) (GQ.FinOf prog w A R) (fun e s' => R (.error e) s') s := by
  induction k with
  | zero =>
    intro i hk hi s h
    obtain ⟨items, items2, ⟨⟨n, n2, hl1, hb1⟩, hs1, hs2⟩, _⟩ := hl _ _ h
    have hi' : i = N := by omega
    have hR : R (.ok (.ret (.bool true))) s := fin s (hi' ▸ h)
    obtain ⟨hp, g, d, tk, os⟩ := s
    wp_walk using wpAny_loadPart' hl1, wpAny_loadPart' hb1
    have hi1 : items[((i : Nat) : Int).toNat]? = none := by simp; omega
    have hi2 : items2[((i : Nat) : Int).toNat]? = none := by simp; omega
    rw [hi1, hi2]
    wp_walk using wpAny_loadPart' hl1, wpAny_loadPart' hb1
    show R (.ok (.ret (.bool (items.size == items2.size)))) _
    rw [hs1, hs2]
    simpa using hR
  | succ k ih =>
    intro i hk hi s h
    obtain ⟨items, items2, ⟨⟨n, n2, hl1, hb1⟩, hs1, hs2⟩, turn⟩ := hl _ _ h
    have hlt : i < items.size := by omega
    have hlt2 : i < items2.size := by omega
    have ht := turn hlt hlt2
    obtain ⟨hp, g, d, tk, os⟩ := s
    wp_walk using wpAny_loadPart' hl1, wpAny_loadPart' hb1
    have hi1 : items[((i : Nat) : Int).toNat]? = some items[i] := by simp [hlt]
    have hi2 : items2[((i : Nat) : Int).toNat]? = some items2[i] := by simp [hlt2]
    have hc : ((i : Int) + 1) = ((i + 1 : Nat) : Int) := by omega
    rw [hi1, hi2]
    refine wpAny_bind (wpAny_mono ht (fun r s2 h2 => ?_) fun _ _ x => x)
    rcases h2 with ⟨hr, h2⟩ | ⟨hr, hz, items', items2', ⟨⟨n', n2', hl2, hb2⟩, hs1', hs2'⟩⟩
    · subst hr
      have hrec := ih (i + 1) (by omega) (by omega) s2 h2
      obtain ⟨hp2, g2, d2, tk2, os2⟩ := s2
      wp_walk
      rw [hc]
      exact ⟨plainId_quiet plain_eq_loop _, codeAny_builtin entry_eq_loop (by
        rw [Around.under_plainId plain_eq_loop _]
        exact hrec)⟩
    · subst hr
      have hR := stop s2 hz
      have hlt' : i < items'.size := by omega
      have hlt2' : i < items2'.size := by omega
      have hi1' : items'[((i : Nat) : Int).toNat]? = some items'[i] := by simp [hlt']
      have hi2' : items2'[((i : Nat) : Int).toNat]? = some items2'[i] := by simp [hlt2']
      obtain ⟨hp2, g2, d2, tk2, os2⟩ := s2
      wp_walk using wpAny_loadPart' hl2, wpAny_loadPart' hb2
      rw [hi1', hi2']
      wp_walk
      exact hR
theorem list_eqB (l b : Addr) (N : Nat) (I : Nat → Shared → Prop) (Z : Shared → Prop) (hl : ListB prog w A (fun e s' => R (.error e) s') l b N I Z)
    (fin : ∀ s, I N s → R (.ok (.ret (.bool true))) s) (stop : ∀ s, Z s → R (.ok (.ret (.bool false))) s) {s : Shared} (h : I 0 s) :
    wpAny (model prog w) A.in1 (Builtin.«list.__eq__» ⟨[.ref l, .ref b], []⟩) (GQ.FinOf prog w A R) (fun e s' => R (.error e) s') s := by
  obtain ⟨items, items2, ⟨⟨n, n2, hl1, hb1⟩, hs1, hs2⟩, _⟩ := hl _ _ h
  have hrec := eq_loopB (A := A) (R := R) l b N I Z hl fin stop _ 0 rfl (Nat.zero_le _) s h
  obtain ⟨hp, g, d, tk, os⟩ := s
  have f3 := AutoSeq1.sub_list_list
  have hne : ¬ (items.size != items2.size) = true := by simp [hs1, hs2]
  wp_walk using wpAny_loadPart' hl1, wpAny_loadPart' hb1
  exact ⟨plainId_quiet plain_eq_loop _, codeAny_builtin entry_eq_loop (by
    rw [Around.under_plainId plain_eq_loop _]
    exact hrec)⟩
end
section
variable {prog : Program} {w : World} {A : Around} {E : Value → Shared → Prop} {s : Shared}
theorem rc_listB {l b : Addr} {N : Nat} {Q : Value → Shared → Prop} (hu : A.units < cLine) (I : Nat → Shared → Prop) (Z : Shared → Prop) (hl : ListB prog w A E l b N I Z)
    (fin : ∀ s, I N s → Q (.bool true) s) (stop : ∀ s, Z s → Q (.bool false) s) (h : I 0 s) : wpAny (model prog w) A (richCompare .Eq (.ref l) (.ref b)) Q E s := by
  obtain ⟨items, items2, ⟨⟨n, n2, hl1, hb1⟩, _, _⟩, _⟩ := hl _ _ h
  refine wpAny_richCompare_same_room (op := .Eq) ⟨_, hl1, rfl⟩ ⟨_, hb1, rfl⟩ F.slot_list_eq (GQ.call_here F.slot_list_eq ⟨_, hl1, rfl⟩ F.entry_list_eq (F.args_list_eq_2 _ _) ?_) hu
  exact list_eqB (R := wants (fun v s' => v ≠ .notImplemented ∧ Q v s') E) l b N I Z hl (fun s' q => ⟨(fun x => nomatch x), fin s' q⟩) (fun s' q => ⟨(fun x => nomatch x), stop s' q⟩) h
end
end GQ2
namespace DL
open PySem PySem.Spec L2
open PyProof.Rows hiding St
/-- the text in the field f of an object of class C -/
def keyO (C f : String) : D → Option (List Nat)
  | .obj C' ns ds => if C' = C then (match lookF ns ds f with
    | some (.str x) => some x
    | _ => none) else none
  | _ => none
open Classical in
noncomputable def eqGo (C f : String) (F : FM) (M : MS) : List D → List D → Res Bool
  | [], [] => .ok true M
  | d :: ds, e :: es => match keyO C f d, keyO C f e with
    | some x, some y => if F [d, e] M = .ok (.bl (x == y)) M then (if x = y then eqGo C f F M ds es else .ok false M) else .stuck
    | _, _ => .stuck
  | _, _ => .stuck
def blR : Bool → MS → Res D := fun b M => .ok (.bl b) M
/-- a == b for lists of objects of class C, which have their own ==, by the text f -/
noncomputable def eqLO (C f : String) (F : FM) (d e : D) (M : MS) : Res D := match lstOf M d, lstOf M e with
  | some ds, some es => if ds.length = es.length then (eqGo C f F M ds es).bind blR else .ok (.bl false) M
  | _, _ => .stuck
theorem eqGo_M {C f : String} {F : FM} {M : MS} : ∀ {ds es : List D} {b : Bool} {M' : MS}, eqGo C f F M ds es = .ok b M' → M' = M
  | [], [], b, M', h => by unfold eqGo at h; cases h; rfl
  | [], _ :: _, b, M', h => by unfold eqGo at h; cases h
  | _ :: _, [], b, M', h => by unfold eqGo at h; cases h
  | d :: ds, e :: es, b, M', h => by
    unfold eqGo at h
    split at h
    · split at h
      · split at h
        · exact eqGo_M h
        · cases h; rfl
      · cases h
    · cases h
theorem eqGo_exc {C f : String} {F : FM} {M : MS} : ∀ {ds es : List D} {C' : String} {ns : List String} {as : List D} {M' : MS}, eqGo C f F M ds es ≠ .exc C' ns as M'
  | [], [], _, _, _, _, h => by unfold eqGo at h; cases h
  | [], _ :: _, _, _, _, _, h => by unfold eqGo at h; cases h
  | _ :: _, [], _, _, _, _, h => by unfold eqGo at h; cases h
  | d :: ds, e :: es, _, _, _, _, h => by
    unfold eqGo at h
    split at h
    · split at h
      · split at h
        · exact eqGo_exc h
        · cases h
      · cases h
    · cases h
theorem Reps.ix_ {K : PySem.W.Frag} {mg : Str → Option Value} {ro : Pl} {H : Hp} : ∀ {ds : List D} {vs : List V} {i : Nat} {d : D}, Reps K mg ro H ds vs → ds[i]? = some d → ∃ v, vs[i]? = some v ∧ Rep K mg ro H d v
  | [], vs, i, d, h, e => by simp at e
  | x :: ds, vs, 0, d, ⟨v, r, ev, q, t⟩, e => by subst ev; simp at e; subst e; exact ⟨v, rfl, q⟩
  | x :: ds, vs, i + 1, d, ⟨v, r, ev, q, t⟩, e => by subst ev; simp at e; simpa using Reps.ix_ t e
theorem keyO_rep {K : PySem.W.Frag} {mg : Str → Option Value} {ro : Pl} {H : Hp} {C f : String} {d : D} {v : V} {x : List Nat} (h : keyO C f d = some x) (r : Rep K mg ro H d v) :
    ∃ a c dx gs, v = .ref a ∧ mg (Str.ofString C) = some (.ref c) ∧ H a = some (.ins c dx gs) ∧ gs.lookup (Str.ofString f) = some (V.str (tx x)) := by
  cases d with
  | obj C' ns ds =>
    unfold keyO at h
    dsimp only at h
    split at h
    · rename_i hC
      subst hC
      split at h
      · rename_i y hl
        cases h
        obtain ⟨a, c, dx, vs, rfl, hmg, hH, _, _, rs⟩ := r
        obtain ⟨w, hw, rw'⟩ := lookF_some rs hl
        cases (show w = V.str (tx x) from rw')
        exact ⟨a, c, dx, _, rfl, hmg, hH, hw⟩
      · cases h
    · cases h
  | _ => cases h
section
variable {X : Cx} {k : Nat} {f c : Addr} {fd : FuncData} {ps : List Str} {F : FM}
theorem Pres.same {ro ro' : Pl} {H H' : Hp} {K : PySem.W.Frag} {mg : Str → Option Value} {M : MS} (R : RelS K mg ro M H) (R' : RelS K mg ro' M H') (p : Pres ro H ro' H') : ro'.ro = ro.ro := by
  obtain ⟨t, e⟩ := p.pre
  have h1 := R.len
  have h2 := R'.len
  rw [e, List.length_append] at h2
  have : t = [] := List.eq_nil_of_length_eq_zero (by omega)
  rw [e, this, List.append_nil]
theorem opS_eqLO {C g : String} (hc : X.mg (Str.ofString C) = some (.ref c)) (hs : PySem.W.findIn X.K (.ref c) "__eq__" = some (some (.ref f))) (hf : PySem.W.isFn X.K (.ref f) = true)
    (hb : Binds X.K fd ps []) (hF : DOk X.prog X.w X.K X.mg X.base k f fd ps F) (hr : Room (k + 1) X.A) (hps : ps.length = 2 := by rfl) : OpS X (compareOp .Eq) (eqLO C g F) := by
  refine ⟨fun x y H Q => ∃ ro M d e, RelS X.K X.mg ro M H ∧ Rep X.K X.mg ro H d x ∧ Rep X.K X.mg ro H e y ∧ PostD X.K X.mg (fun _ _ _ => False) ro H Q (eqLO C g F d e M), ?_, fun ro H M d e x y E Q R rx ry P => ⟨ro, M, d, e, R, rx, ry, ?_⟩⟩
  · rintro pins s σ H x y v u Q I rx ry ⟨ro, M, d, e, R, qx, qy, P⟩
    unfold eqLO at P
    split at P
    · rename_i ds es h1 h2
      obtain ⟨a, vs, rfl, hHa, rs⟩ := lst_of R qx h1
      obtain ⟨b, ws, rfl, hHb, rs2⟩ := lst_of R qy h2
      obtain rfl : v = Value.ref a := rx
      obtain rfl : u = Value.ref b := ry
      have two : ∀ ro' H' s', Inv X pins σ H' s' → RelS X.K X.mg ro' M H' → Pres ro H ro' H' → ∃ vs' ws' its its2, Reps X.K X.mg ro' H' ds vs' ∧ Reps X.K X.mg ro' H' es ws' ∧ Vals vs' its ∧ Vals ws' its2 ∧ (∃ n n2 : Nat, s'.heap.get? a = some { cls := .type "list", data := .seq its.toArray n } ∧ s'.heap.get? b = some { cls := .type "list", data := .seq its2.toArray n2 }) := fun ro' H' s' I' R' P' => by
        obtain ⟨a', vs', ea, hHa', rs'⟩ := lst_of R' (Rep.mono P' _ _ qx) h1
        cases ea
        obtain ⟨b', ws', eb, hHb', rs2'⟩ := lst_of R' (Rep.mono P' _ _ qy) h2
        cases eb
        obtain ⟨z, its, k1, r, e⟩ := I'.hok a _ hHa'
        obtain ⟨z2, its2, k2, r2, e2⟩ := I'.hok b _ hHb'
        exact ⟨vs', ws', its, its2, rs', rs2', r, r2, k1, k2, e, e2⟩
      split at P
      · rename_i hl
        -- the loop
        cases hgo : eqGo C g F M ds es with
        | stuck => rw [hgo] at P; exact P.elim
        | exc _ _ _ _ => exact (eqGo_exc hgo).elim
        | ok r M' =>
          have := eqGo_M hgo
          subst this
          rw [hgo, Res.bind_ok] at P
          have fin : ∀ H' s' ro', Inv X pins σ H' s' → RelS X.K X.mg ro' M' H' → Pres ro H ro' H' → EP X pins σ Q (.bool r) s' := fun H' s' ro' I' R' P' => ⟨.bl r, H', I', rfl, P ro' H' _ R' P' rfl⟩
          show wpAny (model X.prog X.w) X.A (richCompare .Eq (.ref a) (.ref b)) (EP X pins σ Q) X.xe s
          refine GQ2.rc_listB (N := ds.length) hr.units0 (fun i s' => ∃ ro' H', Inv X pins σ H' s' ∧ RelS X.K X.mg ro' M' H' ∧ Pres ro H ro' H' ∧ eqGo C g F M' (ds.drop i) (es.drop i) = .ok r M')
            (fun s' => r = false ∧ ∃ ro' H', Inv X pins σ H' s' ∧ RelS X.K X.mg ro' M' H' ∧ Pres ro H ro' H') ?_ ?_ ?_ ⟨ro, H, I, R, Pres.refl _ _, hgo⟩
          · rintro i s' ⟨ro', H', I', R', P', g'⟩
            obtain ⟨vs', ws', its, its2, q1, q2, r1, r2, t⟩ := two ro' H' s' I' R' P'
            have e1 : its.toArray.size = ds.length := by rw [List.size_toArray, ← r1.length, q1.len]
            have e2 : its2.toArray.size = ds.length := by rw [List.size_toArray, ← r2.length, ← q2.len, hl]
            refine ⟨its.toArray, its2.toArray, ⟨t, e1, e2⟩, fun i1 i2 => ?_⟩
            have j1 : i < ds.length := by omega
            have j2 : i < es.length := by omega
            rw [List.drop_eq_getElem_cons j1, List.drop_eq_getElem_cons j2] at g'
            unfold eqGo at g'
            split at g'
            · rename_i kx ky hk1 hk2
              split at g'
              · rename_i hF'
                obtain ⟨x, hx, rx⟩ := q1.ix_ (List.getElem?_eq_getElem j1)
                obtain ⟨y, hy, ry⟩ := q2.ix_ (List.getElem?_eq_getElem j2)
                obtain ⟨p, c1, dx, gs, rfl, m1, hp, l1⟩ := keyO_rep hk1 rx
                obtain ⟨q, c2, dy, gs2, rfl, m2, hq, l2⟩ := keyO_rep hk2 ry
                rw [hc] at m1; cases m1
                rw [hc] at m2; cases m2
                obtain ⟨u1, hu1, ru1⟩ := r1.get hx
                obtain ⟨u2, hu2, ru2⟩ := r2.get hy
                have z1 : its.toArray[i] = u1 := by
                  have := hu1
                  have i1' : i < its.length := by simpa using i1
                  rw [List.getElem?_eq_getElem i1'] at this
                  simpa using this
                have z2 : its2.toArray[i] = u2 := by
                  have := hu2
                  have i2' : i < its2.length := by simpa using i2
                  rw [List.getElem?_eq_getElem i2'] at this
                  simpa using this
                rw [z1, z2]
                obtain rfl : u1 = Value.ref p := ru1
                obtain rfl : u2 = Value.ref q := ru2
                by_cases hpq : p = q
                · subst hpq
                  rw [hp] at hq
                  cases hq
                  rw [l1] at l2
                  have : kx = ky := by
                    have l2 := Option.some.inj l2
                    have : tx kx = tx ky := by injection l2
                    exact tx_inj.mp this
                  subst this
                  rw [if_pos rfl] at g'
                  exact SeqAt.EqAt.same (A := X.A.in1) (s := s') (.ref p) X.prog X.w X.xe _ (.inl ⟨rfl, ro', H', I', R', P', g'⟩)
                · obtain ⟨mA, J, _⟩ := ins_get I'.hok hp
                  obtain ⟨mB, J', _⟩ := ins_get I'.hok hq
                  obtain ⟨od, J, _⟩ := J.look
                  obtain ⟨od', J', _⟩ := J'.look
                  obtain ⟨m, hFr⟩ := I'.fr
                  refine GQ.eqBool_refG hpq ?_
                  refine PySem.W.cmp_K (op := .Eq) (tb := .ref c) hr.in1.units0 hFr I'.ok.mod.kin J J'.type (by simp [PySem.W.notFirst]) hs hf ?_
                  refine wpAny_mono (own_run (A := X.A.in1) (Q := fun z H'' => z = V.bl (kx == ky) ∧ ∃ ro'', RelS X.K X.mg ro'' M' H'' ∧ Pres ro' H' ro'' H'') (us := [.ref p, .ref q]) (vs := [.ref p, .ref q]) (ds := [ds[i], es[i]]) hF rfl hr.in1 hb I' (.cons rfl (.cons rfl .nil)) R' ⟨_, _, rfl, rx, Reps.one ry⟩ (by rw [hps]; rfl) (by
                    rw [hF']
                    exact fun ro'' H'' z R'' P'' rz => ⟨rz, ro'', R'', P''⟩)) (fun w s2 ⟨z, H2, I2, rz, ez, ro2, R2, P2⟩ => ?_) fun _ _ x => x
                  subst ez
                  obtain rfl : w = Value.bool (kx == ky) := rz
                  refine ⟨kx == ky, rfl, ?_⟩
                  by_cases hxy : kx = ky
                  · rw [if_pos hxy] at g'
                    exact .inl ⟨by simp [hxy], ro2, H2, I2, R2, P'.trans P2, g'⟩
                  · rw [if_neg hxy] at g'
                    cases g'
                    obtain ⟨vs', ws', its, its2, q1, q2, r1, r2, t⟩ := two ro2 H2 s2 I2 R2 (P'.trans P2)
                    exact .inr ⟨by simp [hxy], ⟨rfl, ro2, H2, I2, R2, P'.trans P2⟩, its.toArray, its2.toArray, t, by rw [List.size_toArray, ← r1.length, q1.len], by rw [List.size_toArray, ← r2.length, ← q2.len, hl]⟩
              · cases g'
            · cases g'
          · rintro s' ⟨ro', H', I', R', P', g'⟩
            rw [List.drop_length, hl, List.drop_length] at g'
            unfold eqGo at g'
            cases g'
            exact fin _ _ _ I' R' P'
          · rintro s' ⟨rfl, ro', H', I', R', P'⟩
            exact fin _ _ _ I' R' P'
      · rename_i hl
        obtain ⟨vs', ws', its, its2, q1, q2, r1, r2, n, n2, t1, t2⟩ := two ro H s I R (Pres.refl _ _)
        have ne : (its.toArray.size != its2.toArray.size) = true := by
          rw [List.size_toArray, List.size_toArray, ← r1.length, ← r2.length, q1.len.symm, q2.len.symm]
          simpa using hl
        exact SeqAt.RcAt.lists_lengths (A := X.A) (s := s) ⟨_, t1, rfl, n, rfl⟩ ⟨_, t2, rfl, n2, rfl⟩ ne hr.units0 X.prog X.w X.xe _ ⟨.bl false, H, I, rfl, P ro H _ R (Pres.refl _ _) rfl⟩
    · exact P.elim
  · unfold eqLO at P ⊢
    split at P
    · split at P
      · rename_i hl
        rw [if_pos hl]
        rename_i ds es _ _
        cases hgo : eqGo C g F M ds es with
        | stuck => rw [hgo] at P; exact P
        | exc _ _ _ _ => exact (eqGo_exc hgo).elim
        | ok r M' => rw [hgo] at P; exact P
      · rename_i hl
        rw [if_neg hl]; exact P
    · exact P.elim
end
/-- running it -/
theorem eqGo_run {α : Type} {C f : String} {F : FM} {M : MS} {g : α → D} {key : α → List Nat} (hk : ∀ x, keyO C f (g x) = some (key x)) (hF : ∀ x y, F [g x, g y] M = .ok (.bl (key x == key y)) M) : ∀ (xs ys : List α), xs.length = ys.length → eqGo C f F M (xs.map g) (ys.map g) = .ok (xs.map key == ys.map key) M
  | [], [], _ => rfl
  | [], _ :: _, h => by simp at h
  | _ :: _, [], h => by simp at h
  | x :: xs, y :: ys, h => by
    have ih := eqGo_run hk hF xs ys (by simpa using h)
    simp only [List.map_cons]
    unfold eqGo
    rw [hk, hk]
    simp only
    rw [if_pos (hF x y)]
    by_cases e : key x = key y
    · rw [if_pos e, ih, e]; simp
    · rw [if_neg e]
      congr 1
      simp [e]
theorem eqLO_run {α : Type} {C f : String} {F : FM} {M : MS} {g : α → D} {key : α → List Nat} (hk : ∀ x, keyO C f (g x) = some (key x)) (hF : ∀ x y, F [g x, g y] M = .ok (.bl (key x == key y)) M) {d e : D} {xs ys : List α} (h1 : lstOf M d = some (xs.map g)) (h2 : lstOf M e = some (ys.map g)) :
    eqLO C f F d e M = .ok (.bl (xs.map key == ys.map key)) M := by
  unfold eqLO
  rw [h1, h2]
  dsimp only
  by_cases h : xs.length = ys.length
  · rw [if_pos (by simpa using h), eqGo_run hk hF xs ys h]; rfl
  · rw [if_neg (by simpa using h)]
    congr 2
    symm
    rw [beq_eq_false_iff_ne]
    intro e
    exact h (by simpa using congrArg List.length e)
end DL

/-! DL: calls with keywords: defs (with a star parameter too), classes, methods; calls of values; own instances called. -/
namespace DL
open PySem PySem.Spec L2
open PyProof.Rows hiding St
section
variable {P : Program} {w : World} {K : PySem.W.Frag} {mg : Str → Option Value} {base : Heap}
abbrev FG := List D → List D → MS → Res D
/-- what a call of the def at f with keywords ks comes to -/
def DOkG (P : Program) (w : World) (K : PySem.W.Frag) (mg : Str → Option Value) (base : Heap) (k : Nat) (f : Addr) (ks : List Str) (G : FG) : Prop :=
  ∀ (A : Around) (outer : List Env) (s : Shared) (H : Hp) (us ws : List Value) (vs zs : List V) (Q : VK) (E : XK) (ro : Pl) (ds es : List D) (M : MS), Room k A → Env0 P w K mg base A outer s H → Vals vs us → Vals zs ws →
    RelS K mg ro M H → Reps K mg ro H ds vs → Reps K mg ro H es zs → es.length = ks.length → PostD K mg E ro H Q (G ds es M) → codeAny (model P w) A (.call (.ref f) ⟨us, ks.zip ws⟩) (CR (L2.CX P w) outer P w H s Q E) s
theorem DOkG.mono {j k : Nat} {f : Addr} {ks : List Str} {G : FG} (h : DOkG P w K mg base j f ks G) (hjk : j ≤ k) : DOkG P w K mg base k f ks G :=
  fun A outer s H us ws vs zs Q E ro ds es M hr => h A outer s H us ws vs zs Q E ro ds es M (hr.mono hjk)
/-- a def without a star parameter -/
def kwF (n np nk : Nat) (F : FM) (g : List D → List D → List D) : FG := fun ds es M => if ds.length = np ∧ es.length = nk ∧ (g ds es).length = n then F (g ds es) M else .stuck
theorem DOkG.ofKw {k np : Nat} {f : Addr} {fd : FuncData} {ps ks : List Str} {F : FM} {g : List D → List D → List D} (hF : DOk P w K mg base k f fd ps F) (hb : KwBK K mg fd ps np ks g) : DOkG P w K mg base k f ks (kwF ps.length np ks.length F g) := by
  obtain ⟨gv, gV, hb, hgD⟩ := hb
  intro A outer s H us ws vs zs Q E ro ds es M hr e0 r rz R rs rs2 hl Po
  have KX : K.In s.heap := e0.mod.kin.keeps fun b o e => (e0.bs b o e).1
  unfold kwF at Po
  split at Po
  · rename_i hl
    obtain ⟨l1, l2, l3⟩ := hl
    have rr := hgD ro H ds vs es zs rs rs2
    exact hF.run A outer s H ⟨us, ks.zip ws⟩ (gv us ws) (gV vs zs) Q E hr e0 (hb.to s us ws KX (by rw [← r.length, ← rs.len]; exact l1) (by rw [← rz.length, ← rs2.len]; exact l2)) (hb.rel r rz) ⟨by rw [← rr.len]; exact l3, ro, _, M, R, rr, Po⟩
  · exact Po.elim
/-- n arguments, the keywords', the tuple of the other ones -/
def gVK (n : Nat) (F : FM) : FG := fun ds es M => if n ≤ ds.length ∧ ds.length ≤ 1000 then F (ds.take n ++ es ++ [.tup (ds.drop n)]) M else .stuck
def BindVK (K : PySem.W.Frag) (fd : FuncData) (ps ks : List Str) (pv : Str) : Prop := ∀ us rest ws : List Value, us.length = ps.length → ws.length = ks.length → bindArgs fd ⟨us ++ rest, ks.zip ws⟩ = (newTuple rest >>= fun t => pure ((ps ++ ks).zip (us ++ ws) ++ [(pv, t)]))
theorem funVK_ok {x qual : Str} {st : Stmt} {dvs : List V} {kws : List (Str × V)} {f : Addr} {fd : FuncData} {N ps ks : List Str} {pv : Str} {k : Nat} {body : MST} (Fn : FnP K x qual st dvs kws f fd) (S : FnScope N (ps ++ ks ++ [pv]) (defScope st)) (hb : BindVK K fd ps ks pv)
    (hbody : ∀ (cdv : Value) (A : Around) (outer : List Env) (s : Shared) (H : Hp) (E : XK), Room k (A.deeper (envOfC qual (defScope st) s.heap.objs.size f cdv)) →
      Ctx (cxOf (L2.CX P w) P w K mg base N qual (defScope st) f cdv A outer s H E) (fun cls d _ H' => E cls d H') →
      DSs (cxOf (L2.CX P w) P w K mg base N qual (defScope st) f cdv A outer s H E) (fun cls d _ H' => E cls d H') (defBody st) body) : DOkG P w K mg base (k + 1) f ks (gVK ps.length (runD N.length body)) := by
  obtain ⟨oc, od, dV, kV, doc, pm, an, cdv, ct, osl, rfl, lk, hcd, _, _⟩ := Fn.ex
  intro A outer s H us ws vs zs Q E ro ds es M hr e0 r rz R rs rs2 hlk Po
  unfold gVK at Po
  split at Po
  · rename_i hl
    have ln := rs.len
    have lz := rs2.len
    have r1 := Reps.take ps.length rs
    have r2 := Reps.drop ps.length rs
    have hn : H s.heap.objs.size = Option.none := e0.hok.fresh (Nat.le_refl _)
    have rv1 : ∀ n, Vals (vs.take n) (us.take n) := fun n => r.take n
    have rv2 : ∀ n, Vals (vs.drop n) (us.drop n) := fun n => r.drop n
    have lu := r.length
    have lw := rz.length
    have hz : (us.drop ps.length).length ≤ sizeLine := by rw [List.length_drop, sizeLine_eq]; omega
    refine StX.run_bnd lk hcd S hr e0 (G := fun xs H2 => ∃ p, H p = Option.none ∧ xs = vs.take ps.length ++ zs ++ [V.ref p] ∧ H2 = upd H p (.tup (vs.drop ps.length))) (fun A' Ex Q' h => ?_) fun s2 H2 xs ⟨p, hp, ex, eH⟩ hr' => ?_
    · have eb := hb (us.take ps.length) (us.drop ps.length) ws (by rw [List.length_take]; omega) (by omega)
      rw [List.take_append_drop] at eb
      rw [eb]
      refine wpAny_bind (wpAny_newTuple (wpAny_pure ?_) hz)
      have new : ObjOk P w (upd H s.heap.objs.size (.tup (vs.drop ps.length))) (s.heap.push ({ cls := .type "tuple", data := .seq (us.drop ps.length).toArray } : Obj)) s.heap.objs.size (.tup (vs.drop ps.length)) := ⟨by rw [(rv2 _).length]; exact hz, us.drop ps.length, rv2 _, ⟨_, Heap.get?_push_size _ rfl, rfl, _, rfl⟩⟩
      have un := StX.un_laid (fs := frs outer) (s := s) (o := ({ cls := .type "tuple", data := .seq (us.drop ps.length).toArray } : Obj)) (u := .tup (vs.drop ps.length)) hn
      have z := h _ _ (vs.take ps.length ++ zs ++ [V.ref s.heap.objs.size]) (us.take ps.length ++ ws ++ [Value.ref s.heap.objs.size]) (StX.env0_laid e0 new) un rfl (fun e s' => StX.cxUp outer s H _ _ E e s' un (fun b o q => Heap.get?_push_of_some _ q) rfl) (((rv1 _).append rz).append (.cons rfl .nil))
        (by simp only [List.length_append, List.length_take, List.length_cons, List.length_nil]; omega) ⟨_, hn, rfl, rfl⟩
      rw [List.zip_append (by simp only [List.length_append, List.length_take]; omega)] at z
      exact z
    · subst ex eH
      have hc : Ctx (cxOf (L2.CX P w) P w K mg base N qual (defScope st) f cdv A outer s2 (upd H p (.tup (vs.drop ps.length))) E) (fun cls d _ H' => E cls d H') := ⟨takes_of rfl rfl rfl rfl, passes_of rfl, rfl⟩
      obtain ⟨R2, P2⟩ := R.alloc (o := .tup (vs.drop ps.length)) hp
      have rs3 : Reps K mg ro (upd H p (.tup (vs.drop ps.length))) (ds.take ps.length ++ es ++ [.tup (ds.drop ps.length)]) (vs.take ps.length ++ zs ++ [V.ref p]) :=
        ((Reps.mono P2 _ _ r1).append (Reps.mono P2 _ _ rs2)).append (Reps.one ⟨p, _, rfl, .inl ⟨.inl upd_same, R.fresh hp⟩, Reps.mono P2 _ _ r2⟩)
      have Po2 := Post.moves Po P2
      refine ⟨_, (hbody cdv A outer s2 _ E hr' hc).ps, ro, startD N.length _, M, R2, repSt_start rs3, ?_⟩
      unfold runD at Po2
      cases e : body (startD N.length (ds.take ps.length ++ es ++ [.tup (ds.drop ps.length)])) M with
      | nx sd M' => rw [e] at Po2; exact fun ro' H' st rs q r => Po2 ro' H' .non rs q rfl
      | ret d M' => rw [e] at Po2; exact Po2
      | exc C ns ds' sd M' => rw [e] at Po2; exact fun ro' H' st cls dd rs q _ r => Po2 ro' H' cls dd rs q r
      | brk sd M' => rw [e] at Po2; exact Po2.elim
      | ct sd M' => rw [e] at Po2; exact Po2.elim
      | stuck => rw [e] at Po2; exact Po2
  · exact Po.elim
end
section
variable {X : Cx} {W : WX} {k : Nat} {f : Addr} {ks : List Str} {G : FG}
theorem run_G {A : Around} {pins : List (Addr × Obj)} {st : St} {H : Hp} {s : Shared} {Q : VK} {us ws : List Value} {vs zs : List V} {ro : Pl} {ds es : List D} {M : MS} (hF : DOkG X.prog X.w X.K X.mg X.base k f ks G) (hA : A.frames = X.A.frames) (hr : Room k A) (tk : Takes X W) (I : Inv X pins st H s)
    (r : Vals vs us) (rz : Vals zs ws) (R : RelS X.K X.mg ro M H) (rs : Reps X.K X.mg ro H ds vs) (rs2 : Reps X.K X.mg ro H es zs) (hl : es.length = ks.length) (P : PostD X.K X.mg (fun c d H' => W c d st H') ro H Q (G ds es M)) : wpAny (model X.prog X.w) A (call (.ref f) us (ks.zip ws)) (EP X pins st Q) X.xe s := by
  have e0 : Env0 X.prog X.w X.K X.mg X.base A X.stack s H := by
    have e := I.env0
    exact ⟨by rw [hA]; exact e.frames, e.mod, e.bs, e.bsz, e.funs, e.frf, e.hok, e.bare⟩
  refine wpAny_call (codeAny_mono (hF A X.stack s H us ws vs zs Q (WE W st) ro ds es M hr e0 r rz R rs rs2 hl P) fun r s' hq => ?_)
  cases r with
  | error e => exact passAt tk st pins H s e s' I hq
  | ok fl =>
    cases fl with
    | ret u => exact I.after hq
    | next => exact False.elim hq
    | brk => exact False.elim hq
    | cont => exact False.elim hq
/-- C(..): the new instance, its __init__ -/
theorem run_mkG {C : String} {c : Addr} {fs : List String} {pins : List (Addr × Obj)} {st : St} {H : Hp} {s : Shared} {Q : VK} {us ws : List Value} {vs zs : List V} {ro : Pl} {ds es : List D} {M : MS} (ci : CInfo X.K X.mg C c fs) (Mk' : Mk X.K c f)
    (hF : DOkG X.prog X.w X.K X.mg X.base k f ks G) (hr : Room (k + 1) X.A) (tk : Takes X W) (I : Inv X pins st H s) (r : Vals vs us) (rz : Vals zs ws) (R : RelS X.K X.mg ro M H)
    (rs : Reps X.K X.mg ro H ds vs) (rs2 : Reps X.K X.mg ro H es zs) (hl : es.length = ks.length) (P : PostD X.K X.mg (fun c d H' => W c d st H') ro H Q (mkD C (fun ds M => G ds es M) ds M)) : wpAny (model X.prog X.w) X.A (call (.ref c) us (ks.zip ws)) (EP X pins st Q) X.xe s := by
  have n1 : H (s.heap.objs.size + 1) = none := I.hok.fresh (Nat.le_succ _)
  have n2 : H s.heap.objs.size = none := I.hok.fresh (Nat.le_refl _)
  have ne : s.heap.objs.size ≠ s.heap.objs.size + 1 := Nat.ne_of_lt (Nat.lt_succ_self _)
  have I2 := Inv.made (C := c) I
  obtain ⟨Ra, Pa⟩ := R.alloc (o := .own (s.heap.objs.size + 1)) n2
  have n3 : upd H s.heap.objs.size (.own (s.heap.objs.size + 1)) (s.heap.objs.size + 1) = none := by rw [upd_ne ne.symm]; exact n1
  obtain ⟨Rb, Pb⟩ := Ra.allocM (mo := .obj C [] []) (o := .ins c s.heap.objs.size []) n3 ⟨c, _, [], rfl, ci.mgC, rfl, rfl⟩
  have r2 : Vals (V.ref (s.heap.objs.size + 1) :: vs) (Value.ref (s.heap.objs.size + 1) :: us) := .cons rfl r
  have rsb : Reps X.K X.mg (ro.add (s.heap.objs.size + 1)) _ (D.cell M.length :: ds) (V.ref (s.heap.objs.size + 1) :: vs) :=
    ⟨_, _, rfl, ⟨_, rfl, by show (ro.ro ++ [_])[M.length]? = _; rw [← R.len, List.getElem?_append_right (Nat.le_refl _)]; simp⟩, Reps.mono Pb _ _ (Reps.mono Pa _ _ rs)⟩
  have rsb2 := Reps.mono Pb _ _ (Reps.mono Pa _ _ rs2)
  have P2 := Post.moves (Post.moves P Pa) Pb
  refine wpAny_call (make_map (f := f) I.kIn Mk'.makes Mk'.init (beq_iff_eq.mp Mk'.fn) (codeAny_mono (hF _ X.stack _ _ (Value.ref (s.heap.objs.size + 1) :: us) ws _ zs
    (fun v H2 => v = .non ∧ Q (.ref (s.heap.objs.size + 1)) H2) (WE W st) _ _ _ _ (hr.make c us (ks.zip ws)) (I2.env0.make c us (ks.zip ws)) r2 rz Rb rsb rsb2 hl ?_) fun r s' hq' => ?_))
  · unfold mkD at P2
    dsimp only at P2
    cases e : G (.cell M.length :: ds) es (M ++ [.obj C [] []]) with
    | stuck => rw [e] at P2; exact P2
    | exc C' ns es' M' => rw [e] at P2; exact P2
    | ok d M' =>
      rw [e, Res.bind_ok] at P2
      cases d with
      | non =>
        intro ro' H' v R' P' rv
        cases (show v = V.non from rv)
        refine ⟨rfl, P2 ro' H' _ R' P' ⟨_, rfl, P'.get ?_⟩⟩
        show (ro.ro ++ [_])[M.length]? = _
        rw [← R.len, List.getElem?_append_right (Nat.le_refl _)]; simp
      | _ => exact P2.elim
  · cases r with
    | error e => exact passAt tk st pins _ _ e s' I2 hq'
    | ok fl =>
      cases fl with
      | ret u =>
        obtain ⟨v, H', I3, rv, ev, q3⟩ := I2.after hq'
        subst ev
        exact ⟨rv, ⟨V.ref (s.heap.objs.size + 1), H', I3, rfl, q3⟩⟩
      | next => exact False.elim hq'
      | brk => exact False.elim hq'
      | cont => exact False.elim hq'
variable {e o : Expr} {es : List Expr} {kws : List Keyword} {ma mk : MA} {mo : ME} {x m : Str} {p pos apos : Pos}
/-- the arguments, the keywords' values, the call -/
def callGE (nk : Nat) (G : FG) (ma mk : MA) : ME := fun sd M => (ma sd M).bind fun ds M1 => (mk sd M1).bind fun es M2 => if es.length = nk then G ds es M2 else .stuck
theorem de_callG (hF : DOkG X.prog X.w X.K X.mg X.base k f ks G) (hr : Room k X.A) (tk : Takes X W) (hg : Gl X x) (hm : X.mg x = some (.ref f)) (hk : PySem.W.keepIn X.K (.ref f) = true) (ha : DA X W (e :: es) ma) (hkw : DK X W kws mk)
    (hall : (backToKw pos (keywordEach kws X.env)).all (·.1.isSome) = true := by rfl) (hks : (backToKw pos (keywordEach kws X.env)).filterMap (·.1) = ks := by rfl)
    (hdb : (x == ("__debug__" : Str)) = false := by decide) (he : starEach (e :: es) X.env = (false, eval e X.env) :: starEach es X.env := by rfl)
    (hpl : ((backTo pos (starEach (e :: es) X.env)).any (·.1) || (backToKw pos (keywordEach kws X.env)).any (·.1.isNone)) = false := by rfl) :
    DE X W (.Call (.Name x p) (e :: es) kws pos) (callGE ks.length G ma mk) := by
  refine ⟨⟨fun pins s st H Q I q => ?_⟩⟩
  obtain ⟨ro, sd, M, R, S, P⟩ := q
  refine wpAny_Call_Name_kw (ld_glob I hg hm ?_ hdb)
  refine PySem.W.callWith_KW (h₀ := X.base) I.ok.mod.kin hk hall (thn (ha.pa.run pos pins s st H _ I ⟨ro, sd, M, R, S, Post.bind P⟩) fun us s1 ⟨vs, H1, I1, r, ro1, M1, ds, R1, P1, r1, q1⟩ => ?_) hpl he
  refine thn (hkw.pk.run pos pins s1 st H1 _ I1 ⟨ro1, sd, M1, R1, S.mono P1, Post.bind q1⟩) fun ws s2 ⟨zs, H2, I2, rz, ro2, M2, es', R2, P2, r2, q2⟩ => ⟨I2.kIn, ?_⟩
  split at q2
  · rename_i hl
    rw [hks]
    exact run_G hF rfl hr tk I2 r rz R2 (Reps.mono P2 _ _ r1) r2 hl q2
  · exact q2.elim
theorem de_callG0 (hF : DOkG X.prog X.w X.K X.mg X.base k f ks G) (hr : Room k X.A) (tk : Takes X W) (hg : Gl X x) (hm : X.mg x = some (.ref f)) (hk : PySem.W.keepIn X.K (.ref f) = true) (hkw : DK X W kws mk)
    (hall : (backToKw pos (keywordEach kws X.env)).all (·.1.isSome) = true := by rfl) (hks : (backToKw pos (keywordEach kws X.env)).filterMap (·.1) = ks := by rfl)
    (hdb : (x == ("__debug__" : Str)) = false := by decide)
    (hpl : ((backTo pos (starEach [] X.env)).any (·.1) || (backToKw pos (keywordEach kws X.env)).any (·.1.isNone)) = false := by rfl) :
    DE X W (.Call (.Name x p) [] kws pos) (callGE ks.length G nilA mk) := by
  refine ⟨⟨fun pins s st H Q I q => ?_⟩⟩
  obtain ⟨ro, sd, M, R, S, P⟩ := q
  refine wpAny_Call_Name_kw (ld_glob I hg hm ?_ hdb)
  refine PySem.W.callWith_KW0 (h₀ := X.base) I.ok.mod.kin hk hall ?_ hpl
  have P : PostD X.K X.mg (fun c d H' => W c d st H') ro H Q ((mk sd M).bind fun es M2 => if es.length = ks.length then G [] es M2 else .stuck) := P
  refine thn (hkw.pk.run pos pins s st H _ I ⟨ro, sd, M, R, S, Post.bind P⟩) fun ws s2 ⟨zs, H2, I2, rz, ro2, M2, es', R2, P2, r2, q2⟩ => ⟨I2.kIn, ?_⟩
  split at q2
  · rename_i hl
    rw [hks]
    exact run_G (us := []) (vs := []) (ds := []) hF rfl hr tk I2 .nil rz R2 rfl r2 hl q2
  · exact q2.elim
/-- C(.., k = ..) -/
theorem de_mkG {C : String} {c : Addr} {fs : List String} {mkX : FM → FM} (hG : ∀ F : FM, MkAs X C F (mkX F)) (ci : CInfo X.K X.mg C c fs) (Mk' : Mk X.K c f) (hF : DOkG X.prog X.w X.K X.mg X.base k f ks G) (hr : Room (k + 1) X.A) (tk : Takes X W) (hg : Gl X (Str.ofString C)) (ha : DA X W (e :: es) ma) (hkw : DK X W kws mk)
    (hall : (backToKw pos (keywordEach kws X.env)).all (·.1.isSome) = true := by rfl) (hks : (backToKw pos (keywordEach kws X.env)).filterMap (·.1) = ks := by rfl)
    (hdb : (Str.ofString C == ("__debug__" : Str)) = false := by decide) (he : starEach (e :: es) X.env = (false, eval e X.env) :: starEach es X.env := by rfl)
    (hpl : ((backTo pos (starEach (e :: es) X.env)).any (·.1) || (backToKw pos (keywordEach kws X.env)).any (·.1.isNone)) = false := by rfl) :
    DE X W (.Call (.Name (Str.ofString C) p) (e :: es) kws pos) (callGE ks.length (fun ds es => mkX (fun ds' M' => G ds' es M') ds) ma mk) := by
  refine ⟨⟨fun pins s st H Q I q => ?_⟩⟩
  obtain ⟨ro, sd, M, R, S, P⟩ := q
  refine wpAny_Call_Name_kw (ld_glob I hg ci.mgC ?_ hdb)
  refine PySem.W.callWith_KW (h₀ := X.base) I.ok.mod.kin Mk'.kp hall (thn (ha.pa.run pos pins s st H _ I ⟨ro, sd, M, R, S, Post.bind P⟩) fun us s1 ⟨vs, H1, I1, r, ro1, M1, ds, R1, P1, r1, q1⟩ => ?_) hpl he
  refine thn (hkw.pk.run pos pins s1 st H1 _ I1 ⟨ro1, sd, M1, R1, S.mono P1, Post.bind q1⟩) fun ws s2 ⟨zs, H2, I2, rz, ro2, M2, es', R2, P2, r2, q2⟩ => ⟨I2.kIn, ?_⟩
  split at q2
  · rename_i hl
    rw [hks]
    exact run_mkG ci Mk' hF hr tk I2 r rz R2 (Reps.mono P2 _ _ r1) r2 hl (hG _ _ _ _ _ _ _ R2 q2)
  · exact q2.elim
/-- v(..), v a name that holds the class C -/
def clsGE (C : String) (nk : Nat) (G : FG) (mv : ME) (ma mk : MA) : ME := fun sd M => (mv sd M).bind fun d M1 => match d with
  | .glo C' => if C' = C then callGE nk G ma mk sd M1 else .stuck
  | _ => .stuck
theorem de_clsG {C : String} {c : Addr} {fs : List String} {fe : Expr} {mv : ME} {mkX : FM → FM} (hG : ∀ F : FM, MkAs X C F (mkX F)) (ci : CInfo X.K X.mg C c fs) (Mk' : Mk X.K c f) (hF : DOkG X.prog X.w X.K X.mg X.base k f ks G) (hr : Room (k + 1) X.A) (tk : Takes X W) (hv : DE X W fe mv) (ha : DA X W (e :: es) ma) (hkw : DK X W kws mk)
    (ht : eval (.Call fe (e :: es) kws pos) X.env = (do callWith pos (← eval fe X.env) [] (backTo pos (starEach (e :: es) X.env)) (backToKw pos (keywordEach kws X.env))) := by rfl)
    (hall : (backToKw pos (keywordEach kws X.env)).all (·.1.isSome) = true := by rfl) (hks : (backToKw pos (keywordEach kws X.env)).filterMap (·.1) = ks := by rfl)
    (he : starEach (e :: es) X.env = (false, eval e X.env) :: starEach es X.env := by rfl)
    (hpl : ((backTo pos (starEach (e :: es) X.env)).any (·.1) || (backToKw pos (keywordEach kws X.env)).any (·.1.isNone)) = false := by rfl) :
    DE X W (.Call fe (e :: es) kws pos) (clsGE C ks.length (fun ds es => mkX (fun ds' M' => G ds' es M') ds) mv ma mk) := by
  refine ⟨⟨fun pins s st H Q I q => ?_⟩⟩
  obtain ⟨ro, sd, M, R, S, P⟩ := q
  rw [ht]
  refine wpAny_bind (thn (hv.pe.run pins s st H _ I ⟨ro, sd, M, R, S, Post.bind P⟩) fun u s0 ⟨y, H0, I0, ry, ro0, M0, d, R0, P0, r0, q0⟩ => ?_)
  have q0 := q0
  split at q0
  · rename_i C'
    split at q0
    · rename_i hC
      subst hC
      obtain ⟨a, rfl, hmg⟩ := r0
      rw [ci.mgC] at hmg
      cases hmg
      obtain rfl : u = Value.ref c := ry
      unfold callGE at q0
      refine PySem.W.callWith_KW (h₀ := X.base) I.ok.mod.kin Mk'.kp hall (thn (ha.pa.run pos pins s0 st H0 _ I0 ⟨ro0, sd, M0, R0, S.mono P0, Post.bind q0⟩) fun us s1 ⟨vs, H1, I1, r, ro1, M1, ds, R1, P1, r1, q1⟩ => ?_) hpl he
      refine thn (hkw.pk.run pos pins s1 st H1 _ I1 ⟨ro1, sd, M1, R1, (S.mono P0).mono P1, Post.bind q1⟩) fun ws s2 ⟨zs, H2, I2, rz, ro2, M2, es', R2, P2, r2, q2⟩ => ⟨I2.kIn, ?_⟩
      split at q2
      · rename_i hl
        rw [hks]
        exact run_mkG ci Mk' hF hr tk I2 r rz R2 (Reps.mono P2 _ _ r1) r2 hl (hG _ _ _ _ _ _ _ R2 q2)
      · exact q2.elim
    · exact q0.elim
  · exact q0.elim
/-- o.m(.., k = ..) -/
def methGE (C m : String) (nk : Nat) (G : FG) (mo : ME) (ma mk : MA) : ME := fun sd M => (mo sd M).bind fun d M1 => if insOf M1 C m d = true then (ma sd M1).bind fun ds M2 => (mk sd M2).bind fun es M3 => if es.length = nk then G (d :: ds) es M3 else .stuck else .stuck
theorem de_methG {C m : String} {c : Addr} {fs : List String} {pl : Sem Bool} (ci : CInfo X.K X.mg C c fs) (hmt : Meth X.K c (Str.ofString m) f) (hF : DOkG X.prog X.w X.K X.mg X.base k f ks G) (hr : Room k X.A) (tk : Takes X W) (ho : DE X W o mo) (ha : DA X W (e :: es) ma) (hkw : DK X W kws mk)
    (hall : (backToKw pos (keywordEach kws X.env)).all (·.1.isSome) = true := by rfl) (hks : (backToKw pos (keywordEach kws X.env)).filterMap (·.1) = ks := by rfl)
    (hst : starEach (e :: es) X.env = (false, eval e X.env) :: starEach es X.env := by rfl)
    (hpl : ((backTo pos (starEach (e :: es) X.env)).any (·.1) || (backToKw pos (keywordEach kws X.env)).any (·.1.isNone)) = false := by rfl)
    (ht : eval (.Call (.Attribute o (Str.ofString m) apos) (e :: es) kws pos) X.env = (do
      let ov ← eval o X.env
      standAt apos.atName
      let (f, first) ← holding [ov] (getMethod ov (Str.ofString m) pl)
      callWith pos f first (backTo pos (starEach (e :: es) X.env)) (backToKw pos (keywordEach kws X.env))) := by rfl) :
    DE X W (.Call (.Attribute o (Str.ofString m) apos) (e :: es) kws pos) (methGE C m ks.length G mo ma mk) := by
  refine ⟨⟨fun pins s st H Q I q => ?_⟩⟩
  obtain ⟨ro, sd, M, R, S, P⟩ := q
  refine PySem.W.methodCall_KW (pl := pl) (thn (ho.pe.run pins s st H _ I ⟨ro, sd, M, R, S, Post.bind P⟩) fun u s1 ⟨x, H1, I1, rx, ro1, M1, d, R1, P1, r1, q1⟩ => ?_) ht
  have q1 := q1
  split at q1
  · rename_i hi
    obtain ⟨a, dx, gs, rfl, hH, hl⟩ := ins_of ci R1 r1 hi
    obtain rfl : u = Value.ref a := rx
    refine getmeth_ok I1 hH ci.cl hmt hl ?_
    refine PySem.W.callWith_KW (first := [.ref a]) (h₀ := X.base) I.ok.mod.kin hmt.kp hall (thn (ha.pa.run pos pins s1 st H1 _ I1 ⟨ro1, sd, M1, R1, S.mono P1, Post.bind q1⟩) fun us s2 ⟨vs, H2, I2, r, ro2, M2, ds, R2, P2, r2, q2⟩ => ?_) hpl hst
    refine thn (hkw.pk.run pos pins s2 st H2 _ I2 ⟨ro2, sd, M2, R2, (S.mono P1).mono P2, Post.bind q2⟩) fun ws s3 ⟨zs, H3, I3, rz, ro3, M3, es', R3, P3, r3, q3⟩ => ⟨I3.kIn, ?_⟩
    split at q3
    · rename_i hl'
      rw [hks]
      exact run_G (us := .ref a :: us) (vs := .ref a :: vs) (ds := d :: ds) hF rfl hr tk I3 (.cons rfl r) rz R3 ⟨_, _, rfl, Rep.mono P3 _ _ (Rep.mono P2 _ _ r1), Reps.mono P3 _ _ r2⟩ r3 hl' q3
    · exact q3.elim
  · exact q1.elim
/-- f(e, ..), f an expression that gives an instance of C with its own __call__ -/
def isO : D → Bool
  | .obj .. => true
  | .cell _ => true
  | _ => false
def callOE (C : String) (n : Nat) (F : FM) (mv : ME) (ma : MA) : ME := fun sd M => (mv sd M).bind fun d M1 => if isO d = true then (ma sd M1).bind fun ds M2 => if isIns M2 C d = true ∧ (d :: ds).length = n then F (d :: ds) M2 else .stuck else .stuck
theorem de_callO {C : String} {c : Addr} {fe : Expr} {mv : ME} {fd : FuncData} {ps : List Str} {F : FM} (hc : X.mg (Str.ofString C) = some (.ref c)) (co : StX.CallO X.K c f) (hF : DOk X.prog X.w X.K X.mg X.base k f fd ps F) (hr : Room k X.A) (tk : Takes X W) (hb : Binds X.K fd ps []) (hv : DE X W fe mv) (ha : DA X W (e :: es) ma)
    (ht : eval (.Call fe (e :: es) [] pos) X.env = (do callWith pos (← eval fe X.env) [] (backTo pos (starEach (e :: es) X.env)) (backToKw pos (keywordEach [] X.env))) := by rfl)
    (he : starEach (e :: es) X.env = (false, eval e X.env) :: starEach es X.env := by rfl) (hpl : (backTo pos (starEach es X.env)).any (·.1) = false := by rfl) :
    DE X W (.Call fe (e :: es) [] pos) (callOE C ps.length F mv ma) := by
  refine ⟨⟨fun pins s st H Q I q => ?_⟩⟩
  obtain ⟨ro, sd, M, R, S, P⟩ := q
  refine Call_ (thn (hv.pe.run pins s st H _ I ⟨ro, sd, M, R, S, Post.bind P⟩) fun u s0 ⟨y, H0, I0, ry, ro0, M0, d, R0, P0, r0, q0⟩ => ?_) ht
  have q0 := q0
  split at q0
  · rename_i hO
    obtain ⟨a, rfl⟩ : ∃ a, y = V.ref a := by
      cases d with
      | obj C' ns ds => obtain ⟨a, c', dx, vs, rfl, _⟩ := r0; exact ⟨a, rfl⟩
      | cell n => obtain ⟨a, rfl, _⟩ := r0; exact ⟨a, rfl⟩
      | _ => cases hO
    obtain rfl : u = Value.ref a := ry
    refine StX.callO_with (thn (ha.pa.run pos pins s0 st H0 _ I0 ⟨ro0, sd, M0, R0, S.mono P0, Post.bind q0⟩) fun us s1 ⟨vs, H1, I1, r, ro1, M1, ds, R1, P1, r1, q1⟩ => ?_) he hpl
    have q1 := q1
    split at q1
    · rename_i hi
      have rd := Rep.mono P1 _ _ r0
      obtain ⟨a', c', dx, gs, ea, hmg, hH⟩ := ins_is R1 rd hi.1
      cases ea
      rw [hc] at hmg; cases hmg
      obtain ⟨mA, O, _⟩ := ins_get I1.hok hH
      obtain ⟨od, J, _⟩ := O.look
      refine ⟨⟨c, _, od, J, rfl⟩, ?_⟩
      refine wpAny_call (PySem.W.kco_code I1.kIn J rfl co.at_ co.fn co.fi ?_)
      have r3 : Vals (V.ref a :: vs) (Value.ref a :: us) := .cons rfl r
      have rs : Reps X.K X.mg ro1 H1 (d :: ds) (V.ref a :: vs) := ⟨_, _, rfl, rd, r1⟩
      have bt := hb s1 (.ref a :: us) I1.kIn (by rw [List.append_nil, ← r3.length, ← rs.len]; exact hi.2)
      rw [List.append_nil] at bt
      refine codeAny_mono (hF.run X.A X.stack s1 H1 ⟨.ref a :: us, []⟩ (.ref a :: us) (.ref a :: vs) Q (WE W st) hr I1.env0 bt r3 ⟨by rw [← rs.len]; exact hi.2, ro1, _, M1, R1, rs, q1⟩) fun r s' hq => ?_
      cases r with
      | error e => exact passAt tk st pins H1 s1 e s' I1 hq
      | ok fl =>
        cases fl with
        | ret u => exact I1.after hq
        | next => exact False.elim hq
        | brk => exact False.elim hq
        | cont => exact False.elim hq
    · exact q1.elim
  · exact q0.elim
end
end DL

/-! DL: is True, is False; what defs with keyword-only parameters bind; classmethods with arguments. -/
namespace DL
open PySem PySem.Spec L2
open PyProof.Rows hiding St
def isBF (neg : Bool) (d e : D) (M : MS) : Res D := match d, e with
  | .bl a, .bl b => .ok (.bl ((a == b) != neg)) M
  | _, _ => .stuck
theorem opS_isB {X : Cx} : OpS X (compareOp .Is) (isBF false) := by
  refine ⟨_, op_is_bl, fun ro H M d e x y E Q R rx ry P => ?_⟩
  cases d <;> cases e <;> try exact P.elim
  rename_i a b
  cases (show x = V.bl a from rx)
  cases (show y = V.bl b from ry)
  refine ⟨a, b, rfl, rfl, ?_⟩
  have := PostD.pure (d := .bl ((a == b) != false)) R rfl P
  have e : ((a == b) != false) = decide (a = b) := by cases a <;> cases b <;> rfl
  rw [e] at this
  exact this
theorem opS_isNB {X : Cx} : OpS X (compareOp .IsNot) (isBF true) := by
  refine ⟨_, op_isnot_bl, fun ro H M d e x y E Q R rx ry P => ?_⟩
  cases d <;> cases e <;> try exact P.elim
  rename_i a b
  cases (show x = V.bl a from rx)
  cases (show y = V.bl b from ry)
  refine ⟨a, b, rfl, rfl, ?_⟩
  have := PostD.pure (d := .bl ((a == b) != true)) R rfl P
  have e : ((a == b) != true) = !decide (a = b) := by cases a <;> cases b <;> rfl
  rw [e] at this
  exact this
@[simp] theorem isBF_ap {neg a b : Bool} {M : MS} : isBF neg (.bl a) (.bl b) M = .ok (.bl ((a == b) != neg)) M := rfl
/-! ### what keyword-only parameters bind -/
section
variable {K : PySem.W.Frag} {mg : Str → Option Value} {x qual : Str} {st : Stmt} {kws : List (Str × V)} {f : Addr} {fd : FuncData} {ps : List Str}
/-- all keywords are there -/
theorem kwB_all (F : FnP K x qual st [] kws f fd) (n : Nat) (ks : List Str) (hk : kws ≠ [])
    (h : ∀ (D : Addr) (doc pm : Value) (an : Option Addr) (cdv ct : Value) (us ws : List Value), us.length = n → ws.length = ks.length → KwChain D [] (bindArgs (PySem.W.fnOf x qual (defArgs st) (defBody st) (defScope st) .none (.ref D) doc pm an cdv ct) ⟨us, ks.zip ws⟩) (ps.zip (us ++ ws))) : KwBK K mg fd ps n ks (· ++ ·) := by
  obtain ⟨mv, hb⟩ := FunD.kbinds0 (ps := ps) F n ks [] (fun us mv ws => us ++ ws) hk (fun q hq => by cases hq) (fun r1 _ r3 => r1.append r3) (fun D doc pm an cdv ct us mv ws l1 l2 l3 => by
    cases mv with
    | nil => exact h D doc pm an cdv ct us ws l1 l3
    | cons => cases l2)
  exact ⟨_, _, hb, fun ro H ds vs es zs r1 r2 => r1.append r2⟩
/-- the last ones lack -/
theorem kwB_last (F : FnP K x qual st [] kws f fd) (n : Nat) (ks : List Str) (ms : List (Str × V)) (md : List D) (hk : kws ≠ []) (hms : ∀ q ∈ ms, q ∈ kws) (hmd : ∀ ro H, Reps K mg ro H md (ms.map (·.2)))
    (h : ∀ (D : Addr) (doc pm : Value) (an : Option Addr) (cdv ct : Value) (us mv ws : List Value), us.length = n → mv.length = ms.length → ws.length = ks.length → KwChain D ((ms.map (·.1)).zip mv) (bindArgs (PySem.W.fnOf x qual (defArgs st) (defBody st) (defScope st) .none (.ref D) doc pm an cdv ct) ⟨us, ks.zip ws⟩) (ps.zip (us ++ ws ++ mv))) :
    KwBK K mg fd ps n ks (fun ds es => ds ++ es ++ md) := by
  obtain ⟨mv, hb⟩ := FunD.kbinds0 (ps := ps) F n ks ms (fun us mv ws => us ++ ws ++ mv) hk hms (fun r1 r2 r3 => (r1.append r3).append r2) h
  exact ⟨_, _, hb, fun ro H ds vs es zs r1 r2 => (r1.append r2).append (hmd ro H)⟩
/-- the first ones lack -/
theorem kwB_first (F : FnP K x qual st [] kws f fd) (n : Nat) (ks : List Str) (ms : List (Str × V)) (md : List D) (hk : kws ≠ []) (hms : ∀ q ∈ ms, q ∈ kws) (hmd : ∀ ro H, Reps K mg ro H md (ms.map (·.2)))
    (h : ∀ (D : Addr) (doc pm : Value) (an : Option Addr) (cdv ct : Value) (us mv ws : List Value), us.length = n → mv.length = ms.length → ws.length = ks.length → KwChain D ((ms.map (·.1)).zip mv) (bindArgs (PySem.W.fnOf x qual (defArgs st) (defBody st) (defScope st) .none (.ref D) doc pm an cdv ct) ⟨us, ks.zip ws⟩) (ps.zip (us ++ mv ++ ws))) :
    KwBK K mg fd ps n ks (fun ds es => ds ++ md ++ es) := by
  obtain ⟨mv, hb⟩ := FunD.kbinds0 (ps := ps) F n ks ms (fun us mv ws => us ++ mv ++ ws) hk hms (fun r1 r2 r3 => (r1.append r2).append r3) h
  exact ⟨_, _, hb, fun ro H ds vs es zs r1 r2 => (r1.append (hmd ro H)).append r2⟩
end
section
variable {K : PySem.W.Frag} {fd : FuncData} {p1 p2 k1 pv : Str}
theorem bindVK_0_1 (h0 : ∀ u, bindArgs fd ⟨[], [(k1, u)]⟩ = (newTuple [] >>= fun t => pure [(k1, u), (pv, t)])) (h1 : ∀ u r rs, bindArgs fd ⟨r :: rs, [(k1, u)]⟩ = (newTuple (r :: rs) >>= fun t => pure [(k1, u), (pv, t)])) : BindVK K fd [] [k1] pv
  | [], [], [u], _, _ => h0 u
  | [], r :: rs, [u], _, _ => h1 u r rs
theorem bindVK_1_0 (h0 : ∀ a, bindArgs fd ⟨[a], []⟩ = (newTuple [] >>= fun t => pure [(p1, a), (pv, t)])) (h1 : ∀ a r rs, bindArgs fd ⟨a :: r :: rs, []⟩ = (newTuple (r :: rs) >>= fun t => pure [(p1, a), (pv, t)])) : BindVK K fd [p1] [] pv
  | [a], [], [], _, _ => h0 a
  | [a], r :: rs, [], _, _ => h1 a r rs
theorem bindVK_1_1 (h0 : ∀ a u, bindArgs fd ⟨[a], [(k1, u)]⟩ = (newTuple [] >>= fun t => pure [(p1, a), (k1, u), (pv, t)])) (h1 : ∀ a u r rs, bindArgs fd ⟨a :: r :: rs, [(k1, u)]⟩ = (newTuple (r :: rs) >>= fun t => pure [(p1, a), (k1, u), (pv, t)])) : BindVK K fd [p1] [k1] pv
  | [a], [], [u], _, _ => h0 a u
  | [a], r :: rs, [u], _, _ => h1 a u r rs
end
/-! ### classmethods with arguments -/
def cmE (C : String) (n : Nat) (F : FM) (ma : MA) : ME := fun sd M => (ma sd M).bind fun ds M1 => if (D.glo C :: ds).length = n then F (.glo C :: ds) M1 else .stuck
section
variable {X : Cx} {W : WX}
theorem de_cmeth {k : Nat} {f c p : Addr} {fd : FuncData} {ps : List Str} {F : FM} {C m : String} {mc : Value} {np apos pos : Pos} {pl : Sem Bool} {e : Expr} {es : List Expr} {ma : MA} (hgl : Gl X (Str.ofString C)) (hmg : X.mg (Str.ofString C) = some (.ref c)) (r : ClX.CRead X.K c mc) (cm : ClX.CMet X.K c mc (Str.ofString m) p f)
    (hF : DOk X.prog X.w X.K X.mg X.base k f fd ps F) (hr : Room k X.A) (tk : Takes X W) (hb : Binds X.K fd ps []) (ha : DA X W (e :: es) ma)
    (hd : (Str.ofString C == ("__debug__" : Str)) = false := by decide)
    (hst : starEach (e :: es) X.env = (false, eval e X.env) :: starEach es X.env := by rfl) (hpl : (backTo pos (starEach es X.env)).any (·.1) = false := by rfl)
    (ht : eval (.Call (.Attribute (.Name (Str.ofString C) np) (Str.ofString m) apos) (e :: es) [] pos) X.env = (do
      let ov ← eval (.Name (Str.ofString C) np) X.env
      standAt apos.atName
      let (f, first) ← holding [ov] (getMethod ov (Str.ofString m) pl)
      callWith pos f first (backTo pos (starEach (e :: es) X.env)) (backToKw pos (keywordEach [] X.env))) := by rfl) :
    DE X W (.Call (.Attribute (.Name (Str.ofString C) np) (Str.ofString m) apos) (e :: es) [] pos) (cmE C ps.length F ma) := by
  refine ⟨⟨fun pins s st H Q I q => ?_⟩⟩
  obtain ⟨ro, sd, M, R, S, P⟩ := q
  refine PySem.W.methodCall_KW (pl := pl) (ld_glob I hgl hmg ?_ hd) ht
  refine ClX.getmethcm_ok I r cm fun s2 I2 => ?_
  refine ClX.callwith_cm I2 (ClX.base_none I (Nat.le_refl _)) cm.fi (thn (ha.pa.run pos _ s2 st H _ I2 ⟨ro, sd, M, R, S, Post.bind P⟩) fun us s3 ⟨vs, H3, I3, r3, ro3, M3, ds, R3, P3, rs3, q3⟩ => ⟨⟨ClX.pin_at I3, I3.kIn⟩, ?_⟩) hst hpl
  split at q3
  · rename_i hl
    have rr : Vals (V.ref c :: vs) (Value.ref c :: us) := .cons rfl r3
    have rs : Reps X.K X.mg ro3 H3 (D.glo C :: ds) (V.ref c :: vs) := ⟨_, _, rfl, ⟨c, rfl, hmg⟩, rs3⟩
    refine thn (Q := EP X ((s.heap.objs.size, PySem.W.methodObj (.ref f) (.ref c)) :: pins) st Q) ?_ fun _ _ y => ClX.unpinE y
    refine wpAny_call (PySem.W.method_call (ClX.pin_at I3) (codeAny_mono (hF.run X.A X.stack s3 H3 ⟨.ref c :: us, []⟩ (.ref c :: us) (.ref c :: vs) Q (WE W st) hr I3.env0 ?_ rr ⟨by rw [← rs.len]; exact hl, ro3, _, M3, R3, rs, q3⟩) fun r s' hq => ?_))
    · have b := hb s3 (.ref c :: us) I3.kIn (by rw [List.append_nil, ← rr.length, ← rs.len]; exact hl)
      rwa [List.append_nil] at b
    · cases r with
      | error e => exact passAt tk st _ H3 s3 e s' I3 hq
      | ok fl =>
        cases fl with
        | ret u => exact I3.after hq
        | next => exact False.elim hq
        | brk => exact False.elim hq
        | cont => exact False.elim hq
  · exact q3.elim
end
end DL

/-! DL: sorted(texts, key=lambda x: len(x)); two tables. -/
namespace DL
open PySem PySem.Spec L2
open PyProof.Rows hiding St
/-- lambda x: len(x) -/
structure LenLam1 (params : Arguments) (body : Expr) (scope : Scope) (x : Str) : Prop where
  bd : ∃ p1 p2 p3, body = .Call (.Name "len" p1) [.Name x p2] [] p3
  kind : scope.kind = .function
  co : scope.isCoroutine = false
  gen : scope.isGenerator = false
  nocell : ∀ y ∈ scope.names, y.2 ≠ .cell
  loc : scope.names.lookup x = some .local
  len : scope.names.lookup ("len" : Str) = some .globalImplicit
  xd : (x == ("__debug__" : Str)) = false
  bind : ∀ (qual : Str) (cl : List (Str × Addr)) (pm c ctv v : Value), bindArgs (PySem.W.kla_fn "<lambda>" qual params body scope cl pm c ctv) ⟨[v], []⟩ = pure [(x, v)]
theorem lam_key1 {P : Program} {w : World} {A : Around} {s : Shared} {params : Arguments} {body : Expr} {scope : Scope} {x qual : Str} {cl : List (Str × Addr)} {pm ctv : Value} {f c' : Addr} {mg mb : Str → Option Value} {y : Str} {t : Tok} (L : LenLam1 params body scope x)
    (hroom : A.depth < recursionLimit) (ho : s.heap.get? f = some (PySem.W.kla_obj "<lambda>" qual params body scope cl pm c' ctv)) (hcd : s.heap.CodeRec (.ref c') qual) (hlim : s.heap.NoLimit)
    (hg : s.heap.Ns mainGlobals mg) (hm : mg "len" = none) (hb : s.heap.Ns builtinsNs mb) (hbb : ∀ x : Str, x ≠ "__name__" → mb x = bootBuiltins x) (hy : y.length < 1000000) :
    wpAny (model P w) A (call (.ref f) [.str y t]) (PySem.W.KeyPure (.int y.length) s) (fun _ _ => False) s := by
  obtain ⟨p1, p2, p3, rfl⟩ := L.bd
  refine wpAny_call ?_
  refine codeAny_mono (R := fun r s' => ∃ v, r = .ok (.ret v) ∧ PySem.W.KeyPure (.int y.length) s v s') ?_ fun r s' ⟨v, e, h⟩ => by subst e; exact h
  refine PySem.W.kla_callFunE hroom ho rfl L.co L.gen rfl hcd ?_
  rw [L.bind]
  refine wpAny_pure (wpAny_newFunctionEnv L.nocell (fun z hz => by simp at hz; rw [hz]; exact L.loc) (fun h₁ hns hsb => ⟨hlim.fresh _ hsb, ?_⟩) L.kind)
  have hk₁ : ∀ b o, s.heap.get? b = some o → h₁.get? b = some o := fun b o e => hsb.extBut b o (Nat.ne_of_lt (Heap.lt_size e)) (Heap.get?_push_of_some _ e)
  refine PySem.W.kla_codeExpr ?_
  have nameX : ∀ {A' : Around} {E' : Value → Shared → Prop} {Q' : Value → Shared → Prop} {s' : Shared} {p : Pos}, (∀ b o, h₁.get? b = some o → s'.heap.get? b = some o) → Q' (.str y t) s' → wpAny (model P w) A' (eval (.Name x p) (newEnv scope s.heap.objs.size mainGlobals cl (qual ++ ".<locals>.") (some f) (.ref c') none builtinsNs)) Q' E' s' := fun kp h => by
    refine wpAny_Name (wpAny_loadName_local L.kind L.loc (hns.keeps kp) (show (List.reverse [(x, Value.str y t)]).lookup x = some (.str y t) by simp) h) L.xd
  have kg : ∀ {b m}, s.heap.Ns b m → h₁.Ns b m := fun h => h.keeps hk₁
  refine wpAny_Call_Name_kw (Calls.Name_function_global L.kind L.len (Calls.loadGlobal_builtin (kg hg) hm (kg hb) ((hbb "len" (by decide)).trans boot_len) ?_) (by decide))
  refine PyProof.Rows.callWith_builtin1 (Calls.spliced_cons (nameX (fun _ _ h => h) (Calls.spliced_nil ?_))) rfl rfl
  refine len_str (by omega) ?_
  refine ⟨_, rfl, _, _, rfl, fun b o e => hk₁ b o e, ?_⟩
  exact .int _ _
def lenKey1 (x : List Nat) : PyData := .int x.length
/-- sorted by length -/
def sortL1 (xs : List (List Nat)) : List (List Nat) := xs.mergeSort (PySem.W.dataLe false lenKey1)
def sortLen1E (i : Nat) (C m : String) (me : ME) : ME := fun sd M => (me sd M).bind fun d M1 => match (lst1 [d] M1).bind stsOf with
  | some xs => if isTab i C m M1 = true ∧ xs.length ≤ 100000 ∧ (∀ x, x ∈ xs → x.length < 1000000) then .ok (.lst ((sortL1 xs).map D.str)) M1 else .stuck
  | none => .stuck
/-- sorted by the lambda, in a state where it stands -/
theorem sorted_lam1 {X : Cx} {pins : List (Addr × Obj)} {st : St} {H : Hp} {s : Shared} {Q : VK} {a f c' : Addr} {k : Nat} {params : Arguments} {body : Expr} {scope : Scope} {x qual : Str} {cl : List (Str × Addr)} {pm ctv : Value} {xs : List (List Nat)} (I : Inv X pins st H s) (L : LenLam1 params body scope x)
    (hr : Room k X.A) (hml : X.mg "len" = none) (hs : SqL X.K H a ((xs.map tx).map V.str)) (hl : xs.length ≤ 100000) (hx : ∀ x, x ∈ xs → x.length < 1000000) (hf : s.heap.get? f = some (PySem.W.kla_obj "<lambda>" qual params body scope cl pm c' ctv)) (hc : H c' = some (LamX.CodeO c' qual))
    (h : ∀ p, H p = none → Q (.ref p) (upd H p (.lst ((sortL1 xs).map (fun z => V.str (tx z)))))) : wpAny (model X.prog X.w) X.A (call (.builtin "sorted") [.ref a] [(Str.ofString "key", .ref f)]) (EP X pins st Q) X.xe s := by
  obtain ⟨its, rv, hI, _⟩ := I.list hs
  have e := each_strs (H := H) rv
  refine PySem.W.sorted_key_data (b := false) lenKey1 hI.isList e (PySem.W.AllAlike.of fun _ _ => by simp [lenKey1, PySem.W.alike, PySem.W.alikeAll]) (PySem.W.Sortable.others fun _ => ⟨fun h => by simp [lenKey1] at h, fun _ h => by simp [lenKey1] at h⟩) (by rw [sizeLine_eq]; omega) (fun p _ => ?_) (PyProof.Rows.ksk_s1 _ _) (fun _ => PyProof.Rows.ksk_l1 _ _) (fun _ => PyProof.Rows.ksk_t1 _ _)
    (fun v p ⟨t, ev⟩ hp hh tk kp => ?_) fun out c h' tk kp fresh hD hlen eo => ?_
  · have hd : (lenKey1 p).depth ≤ 1 := by simp [lenKey1, PyData.depth, PyData.depthAll]
    have := hr.un
    omega
  · subst ev
    obtain ⟨mb, b1, b2⟩ := I.mod.blt
    have I2 : Inv X pins st H { s with heap := hh, toks := tk } := I.kept kp
    obtain ⟨oc, vs, tq, e1, e2, e3⟩ := (I2.hok c' _ hc).1
    have lk := lam_key1 (P := X.prog) (w := X.w) (A := X.A.in1.in1) (s := { s with heap := hh, toks := tk }) (y := tx p) (t := t) L (by have := hr.dp; show X.A.depth < _; omega) (kp _ _ hf) ⟨c', oc, vs, tq, rfl, e1, e2, e3⟩ (I2.mod.nolimit.keeps I2.bk) (I2.mod.glob.keeps I2.bk) hml (b1.keeps I2.bk) b2 (by simpa [Str.length] using hx p hp)
    simpa [lenKey1, Str.length] using lk
  · have hp' := I.hok.fresh (Nat.le_succ s.heap.objs.size)
    have r' := vals_each eo
    refine ⟨.ref _, upd H (s.heap.objs.size + 1) (.lst ((sortL1 xs).map fun z => V.str (tx z))), I.laid (t' := tk) kp (Nat.le_succ _) ⟨?_, out, c, ?_, hD⟩, rfl, h _ hp'⟩
    · rw [List.length_map]
      unfold sortL1
      rw [List.length_mergeSort, sizeLine_eq]; omega
    · rw [List.map_map] at r'
      exact r'
theorem de_sortLen1 {X : Cx} {W : WX} {i k : Nat} {C m : String} {params : Arguments} {body : Expr} {scope : Scope} {x : Str} {lpos kpos p pos : Pos} {e : Expr} {me : ME} {c P : Addr} (L : LenLam1 params body scope x) (hnf : ∀ y ∈ scope.names, y.2 ≠ .free)
    (TB : LamX.TabB X.base X.mg c P) (hcode : X.env.code = .ref c) (hq : X.env.qual ++ "<lambda>" = lamQ C m) (hT : IsTab X.K X.mg C m P) (hg : Gl X "sorted") (hm : X.mg "sorted" = none) (hml : X.mg "len" = none) (hr : Room k X.A) (he : DE X W e me)
    (hdef : defaultsOf params X.env = ([], []) := by rfl) (hs2 : starEach [e] X.env = (false, eval e X.env) :: starEach [] X.env := by rfl) (hb : backTo pos (starEach [e] X.env) = (false, eval e X.env) :: backTo pos (starEach [] X.env) := by rfl) (hpl : (backTo pos (starEach [e] X.env)).any (·.1) = false := by rfl) :
    DE X W (.Call (.Name "sorted" p) [e] [⟨some (Str.ofString "key"), .Lambda params body scope lpos, kpos⟩] pos) (sortLen1E i C m me) := by
  refine ⟨⟨fun pins s st H Q I q => ?_⟩⟩
  obtain ⟨ro, sd, M, R, S, Pq⟩ := q
  refine wpAny_Call_Name_kw (ld_blt I hg hm boot_sorted ?_)
  refine PyProof.Rows.callWith_kw (thn ((da_cons he da_nil hs2).pa.run pos pins s st H (fun vs H1 => ∃ (ro1 : Pl) (M1 : MS) (xs : List (List Nat)) (a : Addr), vs = [.ref a] ∧ RelS X.K X.mg ro1 M1 H1 ∧ Pres ro H ro1 H1 ∧ SqL X.K H1 a ((xs.map tx).map V.str) ∧ isTab i C m M1 = true ∧ xs.length ≤ 100000 ∧ (∀ x, x ∈ xs → x.length < 1000000) ∧
      PostD X.K X.mg (fun c d H' => W c d st H') ro1 H1 Q (.ok (.lst ((sortL1 xs).map D.str)) M1)) I ?first) fun us s1 ⟨vs, H1, I1, r1, q1⟩ => ?_) hb hpl rfl rfl
  case first =>
    refine ⟨ro, sd, M, R, S, ?_⟩
    have Pq : Post _ X.K X.mg (fun c d H' => W c d st H') ro H Q ((me sd M).bind _) := Pq
    unfold consA
    cases em : me sd M with
    | stuck => rw [em] at Pq; exact Pq.elim
    | exc C ns ds M1 => rw [em] at Pq; exact Pq
    | ok d M1 =>
      rw [em, Res.bind_ok] at Pq
      rintro ro1 H1 xs R1 P1 rs
      split at Pq
      · rename_i ys hy
        split at Pq
        · rename_i hc
          obtain ⟨es, h1, h2⟩ := Option.bind_eq_some_iff.mp hy
          obtain ⟨a, vs, rfl, hq', q'⟩ := lst1_at R1 rs h1
          rw [stsOf_eq h2] at q'
          rw [Reps.strs q'] at hq'
          exact ⟨ro1, M1, ys, a, rfl, R1, P1, hq', hc.1, hc.2.1, hc.2.2, Post.moves Pq P1⟩
        · exact Pq.elim
      · exact Pq.elim
  obtain ⟨ro1, M1, xs, a, rfl, R1, P1, hS, hi, hl, hx, PP⟩ := q1
  obtain ⟨u, rfl, ru⟩ := vals1 r1
  obtain rfl : u = Value.ref a := ru
  have e1 := isTab_at hi
  obtain ⟨b, hb'⟩ : ∃ b, ro1.ro[i]? = some b := ⟨_, List.getElem?_eq_getElem (by rw [R1.len]; exact (List.getElem?_eq_some_iff.mp e1).1)⟩
  obtain ⟨ho, eH, ps, P', rfl, t, gi, kT⟩ := R1.at_ i _ b e1 hb'
  have ePP : P' = P := kT.one hT
  subst ePP
  rw [hb'] at gi
  cases gi
  show wpAny _ _ (evalAll ((do let v ← eval (.Lambda params body scope lpos) X.env; standAt pos; pure v) :: [])) _ _ s1
  have fin : ∀ (f c' : Addr) (pm ctv : Value) (s' : Shared) (H2 : Hp), Inv X pins st H2 s' → RelS X.K X.mg ro1 M1 H2 → Pres ro1 H1 ro1 H2 → SqL X.K H2 a ((xs.map tx).map V.str) → H2 c' = some (LamX.CodeO c' (X.env.qual ++ "<lambda>")) →
      s'.heap.get? f = some (PySem.W.kla_obj "<lambda>" (X.env.qual ++ "<lambda>") params body scope (cloFrom X.env.cells scope.names []) pm c' ctv) →
      wpAny (model X.prog X.w) X.A (call (.builtin "sorted") [.ref a] [(Str.ofString "key", .ref f)]) (EP X pins st Q) X.xe s' := fun f c' pm ctv s' H2 I2 R2 P2 hS2 hc2 hf2 =>
    sorted_lam1 I2 L hr hml hS2 hl hx hf2 hc2 (PostD.newL R2 (map_reps (g := D.str) (v := fun z => V.str (tx z)) (fun _ => rfl) _) (Post.moves PP P2))
  have keepS : ∀ H2 : Hp, (∀ b o, H1 b = some o → (∀ q, o ≠ .tbl q) → H2 b = some o) → SqL X.K H2 a ((xs.map tx).map V.str) := fun H2 k => by
    rcases hS with h | h
    · rcases h with h | ⟨o, h⟩
      · exact .inl (.inl (k _ _ h (fun q z => by cases z)))
      · exact .inl (.inr ⟨o, k _ _ h (fun q z => by cases z)⟩)
    · exact .inr h
  refine wpAny_evalAll_cons (wpAny_bind ?_)
  refine lam_make3 I1 TB hcode eH t.1 (fun p' cv hcv => let ⟨c0, a1, a2, _⟩ := t.2 p' cv hcv; ⟨c0, a1, by rw [hq]; exact a2⟩) hdef (fun y hy e => absurd e (hnf y hy)) (fun f c' pm ctv s' I2 hc2 hf2 => ?_) (fun f c' pm ctv s' hn I2 hf2 => ?_)
  · exact wpAny_bind (wpAny_standAt (wpAny_pure (wpAny_evalAll_nil (fin f c' pm ctv s' H1 I2 R1 (Pres.refl _ _) hS hc2 hf2))))
  · have RL := R1.lam (pos := lpos) (c' := c') e1 hb' eH hn
    rw [← hq] at RL
    exact wpAny_bind (wpAny_standAt (wpAny_pure (wpAny_evalAll_nil (fin f c' pm ctv s' _ I2 RL.1 RL.2 (keepS _ fun b o h1 h2 => by
      rw [upd_ne (ne_of_none h1 hn), upd_ne (fun z => by rw [z, eH] at h1; cases h1; exact h2 _ rfl)]
      exact h1) upd_same hf2))))
/-! ### the law's start with two tables -/
def spLaw2 (K : PySem.W.Frag) (T T' : Addr) : Sp := fun vs H Q _ => ∃ (a : Addr) (ns : List Int), vs = [.ref a] ∧ SqL K H a (ns.map V.int) ∧ ns.length ≤ 63 ∧ H T = some (.tbl #[]) ∧ H T' = some (.tbl #[]) ∧ ∀ H', Q (.bl true) H'
theorem dok_law2 {K : PySem.W.Frag} {mg : Str → Option Value} {P : Program} {w : World} {base : Heap} {k : Nat} {f T T' : Addr} {fd : FuncData} {x : Str} {F : FM} {C m C' m' : String} (hT : IsTab K mg C m T) (hT' : IsTab K mg C' m' T') (hne : T ≠ T') (h : DOk P w K mg base k f fd [x] F)
    (hlaw : ∀ ns : List Int, ns.length ≤ 63 → ∃ M', F [.flst (ns.map D.int)] [.tab 0 C m, .tab 1 C' m'] = .ok (.bl true) M') : FnOk P w K mg base (L2.CX P w) k f fd [x] (spLaw2 K T T') :=
  FnOk.imp h fun vs H Q E ⟨a, ns, hv, hS, hl, hH, hH', q⟩ => by
    subst hv
    obtain ⟨M', e⟩ := hlaw ns hl
    refine ⟨rfl, ⟨[T, T'], []⟩, [.flst (ns.map D.int)], [.tab 0 C m, .tab 1 C' m'], ⟨rfl, by simp [hne], fun a h => (by cases h), fun a _ h => (by cases h), fun i mo a h1 h2 => ?_⟩, ?_, ?_⟩
    · match i with
      | i + 2 => simp at h1
      | 0 =>
        simp at h1 h2
        subst h1 h2
        exact ⟨_, hH, #[], T, rfl, ⟨trivial, fun pos cv hc => by simp [codeAmong] at hc⟩, rfl, hT⟩
      | 1 =>
        simp at h1 h2
        subst h1 h2
        exact ⟨_, hH', #[], T', rfl, ⟨trivial, fun pos cv hc => by simp [codeAmong] at hc⟩, rfl, hT'⟩
    · refine Reps.one ⟨a, ns.map V.int, rfl, ?_, DL.reps_ints ns⟩
      rcases hS with hS | ⟨o, its, n, h1, h2, h3, h4, h5, h6⟩
      · refine .inl ⟨hS, fun z => ?_⟩
        have z : a = T ∨ a = T' := by simpa [Pl.all] using z
        rcases z with z | z <;> subst z
        · rcases hS with hS | ⟨u, hS⟩ <;> rw [hH] at hS <;> cases hS
        · rcases hS with hS | ⟨u, hS⟩ <;> rw [hH'] at hS <;> cases hS
      · exact .inr ⟨o, its, n, h1, h2, h3, h4, h5, h6⟩
    · rw [e]
      intro ro' H' v _ _ r
      cases (show v = V.bl true from r)
      exact q H'
theorem walkD2 {l : PySem.W.OpenLaw} {q : Program} {loose : List Str} {XP : (Str → Option Value) → Heap → Prop} {YP : World → Heap → Prop} {d : DefRec} {K : Params → PySem.W.Frag} (x : Str) (k : Nat) (hn : l.most = some 63) (hdf : d.params.defaults = []) (hk : Room k callerA)
    (hY : ∀ (w : World) (h : Heap), YP w h → (K w.params).In h)
    (F : ∀ (w : World) (mg : Str → Option Value) (fa : Addr) (h : Heap), YP w h → (K w.params).In h → h.Ns mainGlobals mg → mg d.name = some (.ref fa) →
      ∃ (fd : FuncData) (c T c' T' : Addr), (∀ (s : Shared) (u : Value), BindsTo s fd ⟨[u], []⟩ [(x, u)]) ∧ h.get? T = some { cls := .none, data := .fields #[] } ∧ (K w.params).lookup T = none ∧ PySem.W.codeHdIn (K w.params) c T = true ∧
        h.get? T' = some { cls := .none, data := .fields #[] } ∧ (K w.params).lookup T' = none ∧ PySem.W.codeHdIn (K w.params) c' T' = true ∧
        ∀ base : Heap, (K w.params).In base → base.Ns mainGlobals mg → LamX.TabB base mg c T → LamX.TabB base mg c' T' → FnOk l.prog w (K w.params) mg base (L2.CX l.prog w) k fa fd [x] (spLaw2 (K w.params) T T')) :
    PySem.W.WalkO q loose XP YP l.row.toRowW d [] (fun f vs => PySem.call f vs) :=
  LamX.walk_ofTs (n := 63) (k := k) (x := x) (K := K) (CX := fun w => L2.CX l.prog w) hn (by decide) hdf hk hY (fun w mg fa h Y KX G hm => by
    obtain ⟨fd, c, T, c', T', h1, h2, h3, h4, i2, i3, i4, h5⟩ := F w mg fa h Y KX G hm
    have two : ∀ {p : Addr × Addr}, p ∈ [(c, T), (c', T')] → p = (c, T) ∨ p = (c', T') := fun hp => by simpa using hp
    refine ⟨fd, [(c, T), (c', T')], spLaw2 (K w.params) T T', fun p hp => ?_, fun p hp => ?_, fun p hp => ?_, h1, fun H a ns hl _ hH hS => ⟨a, ns, rfl, hS, hl, hH (c, T) List.mem_cons_self, hH (c', T') (List.mem_cons_of_mem _ List.mem_cons_self), fun _ => rfl⟩, fun base b1 b2 b3 => h5 base b1 b2 (b3 (c, T) List.mem_cons_self) (b3 (c', T') (List.mem_cons_of_mem _ List.mem_cons_self))⟩
    · rcases two hp with z | z <;> subst z
      · exact h2
      · exact i2
    · rcases two hp with z | z <;> subst z
      · exact h3
      · exact i3
    · rcases two hp with z | z <;> subst z
      · exact PySem.W.codeHd_of_K KX h4
      · exact PySem.W.codeHd_of_K KX i4) fun _ _ _ _ _ ⟨_, _, _, _, _, _, _, _, _, _, _, _, z⟩ => z
end DL

/-! DL: x[::-1] as a changeable list. -/
namespace DL
open PySem PySem.Spec L2
open PyProof.Rows hiding St
def revAC (mo : ME) : ME := fun sd M => (mo sd M).bind fun d M1 => match d with
  | .str _ => .stuck
  | d => if isTup d = true then .stuck else match seqOf M1 d with
    | some ds => .ok (.cell M1.length) (M1 ++ [.lst ds.reverse])
    | none => .stuck
theorem de_revAC {X : Cx} {W : WX} {e : Expr} {mo : ME} {k : Nat} {p1 p2 p3 pos : Pos} (he : DE X W e mo) : DE X W (.Subscript e (.Slice none none (some (.UnaryOp .USub (.Constant (.int 1) k p1) p2)) p3) pos) (revAC mo) := by
  refine ⟨⟨fun pins s st H Q I q => (pe_revA he.pe).run pins s st H Q I ?_⟩⟩
  obtain ⟨ro, sd, M, R, S, P⟩ := q
  refine ⟨ro, sd, M, R, S, (Post.bind P).imp fun x H1 ⟨ro1, M1, d, R1, P1, r1, q1⟩ => ?_⟩
  have key : PostD X.K X.mg (fun c d H' => W c d st H') ro1 H1 Q (if isTup d = true then .stuck else match seqOf M1 d with | some ds => .ok (.cell M1.length) (M1 ++ [.lst ds.reverse]) | none => .stuck) → (∃ a xs, x = .ref a ∧ SqL X.K H1 a xs ∧ ∀ p, H1 p = none → Q (.ref p) (upd H1 p (.lst xs.reverse))) := fun q1 => by
    split at q1
    · exact q1.elim
    · rename_i ht
      split at q1
      · rename_i ds hs
        obtain ⟨a, vs, rfl, q, rs⟩ := seq_list R1 r1 hs (by simpa using ht)
        exact ⟨a, vs, rfl, q, PostD.newC R1 rs.rev q1⟩
      · exact q1.elim
  cases d with
  | str z => exact False.elim (show False from (show PostD X.K X.mg (fun c d H' => W c d st H') ro1 H1 Q (.stuck) from q1).elim)
  | _ => exact .inl (key q1)
@[simp] theorem revC_ap {me : ME} {sd : SD} {M : MS} : revAC me sd M = (me sd M).bind fun d M1 => match d with
  | .str _ => .stuck
  | d => if isTup d = true then .stuck else match seqOf M1 d with
    | some ds => .ok (.cell M1.length) (M1 ++ [.lst ds.reverse])
    | none => .stuck := rfl
end DL

/-! DL: text.replace of written texts; judgements that ask that one token is out. -/
namespace DL
open PySem PySem.Spec L2
open PyProof.Rows hiding St
structure DET (X : Cx) (W : WX) (e : Expr) (m : ME) : Prop where
  pe : PET X e (liftE X.K X.mg W m)
structure DAT (X : Cx) (W : WX) (es : List Expr) (m : MA) : Prop where
  pa : PAT X es (liftA X.K X.mg W m)
structure DIT (X : Cx) (W : WX) (tg iter : Expr) (m : MI) : Prop where
  pi : PIT X tg iter (liftI X.K X.mg W m)
structure DST (X : Cx) (W : WX) (s : Stmt) (m : MST) : Prop where
  ps : PST X s (liftS X.K X.mg W m)
structure DSsT (X : Cx) (W : WX) (s : List Stmt) (m : MST) : Prop where
  ps : PSsT X s (liftS X.K X.mg W m)
section
variable {X : Cx} {W : WX} {e o tg iter : Expr} {es : List Expr} {m mo ma : ME} {ms : MA} {mi : MI} {s : Stmt} {rest body : List Stmt} {sa sb : MST} {pos : Pos} {g : MG} {ix : List Nat}
theorem DE.t (h : DE X W e m) : DET X W e m := ⟨fun pins s σ H Q _ I q => h.pe.run pins s σ H Q I q⟩
theorem DS.t (h : DS X W s sa) : DST X W s sa := ⟨fun pins s σ H D _ I q => h.ps.run pins s σ H D I q⟩
theorem DSs.t (h : DSs X W rest sa) : DSsT X W rest sa := ⟨fun pins s σ H D _ I q => h.ps.run pins s σ H D I q⟩
theorem da_nilT : DAT X W [] nilA := ⟨fun pos pins s σ H Q _ I q => da_nil.pa.run pos pins s σ H Q I q⟩
theorem da_consT (ha : DET X W e ma) (hr : DAT X W es ms) (hs : starEach (e :: es) X.env = (false, eval e X.env) :: starEach es X.env := by rfl) : DAT X W (e :: es) (consA ma ms) := by
  refine ⟨fun pos pins s st H Q h0 I q => pat_cons ha.pe hr.pa hs pos pins s st H Q h0 I ?_⟩
  obtain ⟨ro, sd, M, R, S, P⟩ := q
  refine ⟨ro, sd, M, R, S, (Post.bind P).imp fun x H1 ⟨ro1, M1, d, R1, P1, r1, q1⟩ => ?_⟩
  refine ⟨ro1, sd, M1, R1, S.mono P1, (Post.bind q1).imp fun xs H2 ⟨ro2, M2, ds, R2, P2, r2, q2⟩ => ?_⟩
  exact q2 ro2 H2 _ R2 (Pres.refl _ _) ⟨x, xs, rfl, Rep.mono P2 d x r1, r2⟩
theorem de_lstT (h : DAT X W es ms) : DET X W (.List es pos) (lstE ms) := by
  refine ⟨fun pins s st H Q h0 I q => pet_lst h.pa pins s st H Q h0 I ?_⟩
  obtain ⟨ro, sd, M, R, S, P⟩ := q
  refine ⟨ro, sd, M, R, S, (Post.bind P).imp fun xs H1 ⟨ro1, M1, ds, R1, P1, r1, q1⟩ => ?_⟩
  split at q1
  · rename_i hl
    exact ⟨by rw [← r1.len]; exact line_le hl, PostD.newL R1 r1 q1⟩
  · exact q1.elim
/-- the items of a list of an expression -/
def lstI (m : ME) : MI := fun sd M => (m sd M).bind fun d M1 => match d with
  | .lst ds => .ok ⟨ds, fun _ => True⟩ M1
  | _ => .stuck
theorem di_lstT (h : DET X W e m) : DIT X W tg e (lstI m) := by
  refine ⟨fun pins s st H Q h0 I q => pit_list h.pe pins s st H Q h0 I ?_⟩
  obtain ⟨ro, sd, M, R, S, P⟩ := q
  have P : Post _ X.K X.mg (fun c d H' => W c d st H') ro H Q ((m sd M).bind _) := P
  cases em : m sd M with
  | stuck => rw [em] at P; exact P.elim
  | exc C ns ds M1 => exact ⟨ro, sd, M, R, S, by rw [em] at P ⊢; exact P⟩
  | ok d M1 =>
    rw [em, Res.bind_ok] at P
    cases d with
    | lst ds =>
      have P : Post _ X.K X.mg (fun c d H' => W c d st H') ro H Q (.ok (⟨ds, fun _ => True⟩ : ItD) M1) := P
      refine ⟨ro, sd, M, R, S, ?_⟩
      rw [em]
      intro ro1 H1 v R1 Pr r
      obtain ⟨a, vs, ev, q, o⟩ := iterOk_lst (chk := fun _ => True) R1 r (ds := ds) rfl rfl (fun _ _ => rfl)
      exact ⟨a, ev, ⟨vs, q⟩, P ro1 H1 _ R1 Pr o⟩
    | _ => exact P.elim
/-- o.replace(a, b) of two written texts -/
def repT (x : List Nat) (a b : String) : List Nat := (Txt.replace (tx x) (Str.ofString a) (Str.ofString b)).cps.toList
def repE (a b : String) (mo : ME) : ME := fun sd M => (mo sd M).bind fun d M1 => match d with
  | .str x => if x.length + (x.length + 1) * (Str.ofString b).length ≤ 16777216 then .ok (.str (repT x a b)) M1 else .stuck
  | _ => .stuck
theorem de_repT {a b : String} {j k : Nat} {c0 c1 apos : Pos} (ho : DE X W o mo) (hyz : (Str.ofString a == Str.ofString b) = false := by decide)
    (hst : starEach [.Constant (.str (Str.ofString a)) j c0, .Constant (.str (Str.ofString b)) k c1] X.env = [(false, eval (.Constant (.str (Str.ofString a)) j c0) X.env), (false, eval (.Constant (.str (Str.ofString b)) k c1) X.env)] := by rfl)
    (hbase : attributeBase o "replace" X.env (eval o X.env) = eval o X.env := by rfl) (hline : (apos.endLine == pos.line) = true := by rfl) :
    DET X W (.Call (.Attribute o "replace" apos) [.Constant (.str (Str.ofString a)) j c0, .Constant (.str (Str.ofString b)) k c1] [] pos) (repE a b mo) := by
  refine ⟨fun pins s st H Q h0 I q => CwR.pet_replC ho.pe hyz hst hbase hline pins s st H Q h0 I ?_⟩
  obtain ⟨ro, sd, M, R, S, P⟩ := q
  refine ⟨ro, sd, M, R, S, (Post.bind P).imp fun x H1 ⟨ro1, M1, d, R1, P1, r1, q1⟩ => ?_⟩
  cases d with
  | str z =>
    have q1 : PostD X.K X.mg (fun c d H' => W c d st H') ro1 H1 Q (if z.length + (z.length + 1) * (Str.ofString b).length ≤ 16777216 then .ok (.str (repT z a b)) M1 else .stuck) := q1
    cases (show x = V.str (tx z) from r1)
    split at q1
    · rename_i hz
      refine ⟨tx z, rfl, by simpa [Str.length] using hz, ?_⟩
      have e : V.str (Txt.replace (tx z) (Str.ofString a) (Str.ofString b)) = V.str (tx (repT z a b)) := by
        unfold repT
        simp [tx]
      rw [e]
      exact PostD.pure (d := .str (repT z a b)) R1 rfl q1
    · exact q1.elim
  | _ => exact q1.elim
theorem dss_consT (h : DST X W s sa) (hr : DSsT X W rest sb) : DSsT X W (s :: rest) (seqS sa sb) := by
  refine ⟨fun pins s st H D0 h0 I q => psst_cons h.ps hr.ps pins s st H D0 h0 I ?_⟩
  obtain ⟨ro, sd, M, R, S, P⟩ := q
  exact ⟨ro, sd, M, R, S, (PostS.seq P).imp (fun st' H' ⟨ro1, sd1, M1, R1, S1, P1, q1⟩ => ⟨ro1, sd1, M1, R1, S1, q1⟩) (fun _ _ h => h) (fun _ _ h => h) (fun _ _ h => h)⟩
theorem ds_forT (cx : Ctx X W) (hi : DIT X W tg iter mi) (hg : DG X tg g ix) (hb : DSs X W body sb) (hs : ∀ x, foldedSetIterable iter X.env x = pure x := by intro _; rfl) : DST X W (.For tg iter body [] pos) (forS mi g sb) := by
  refine ⟨fun pins s st H D0 h0 I q => pst_for cx.po cx.calm hi.pi hg.pg hb.ps hs pins s st H D0 h0 I ?_⟩
  obtain ⟨ro, sd, M, R, S, P⟩ := q
  refine ⟨ro, sd, M, R, S, (PostS.ofE P S).imp fun J H1 ⟨ro1, M1, it, R1, P1, J1, q1⟩ => ?_⟩
  -- the invariant: what is left of the run
  refine ⟨fun i m st' H' => m = it.ds.length - i ∧ i ≤ it.ds.length ∧ ∃ ro' sd' M', RelS X.K X.mg ro' M' H' ∧ RepSt X.K X.mg ro' H' sd' st' ∧ Pres ro1 H1 ro' H' ∧ PostS X.K X.mg W ro' H' D0 (forGo it.chk g sb (it.ds.drop i) sd' M'),
    ⟨_, rfl, Nat.zero_le _, ro1, sd, M1, R1, S.mono P1, Pres.refl _ _, q1⟩, ?_⟩
  rintro i m st' H' ⟨rfl, hle, ro', sd', M', R', S', P', q'⟩
  by_cases hlt : i < it.ds.length
  · have hd : it.ds.drop i = it.ds[i] :: it.ds.drop (i + 1) := List.drop_eq_getElem_cons hlt
    rw [hd] at q'
    unfold forGo at q'
    by_cases hc : it.chk M'
    · rw [if_pos hc] at q'
      obtain ⟨_, hJ⟩ := J1 ro' H' M' R' P'.w hc
      obtain ⟨hgo, hy⟩ := hJ i _ (List.getElem?_eq_getElem hlt)
      refine .inr ⟨hgo, fun st2 H2 => ∃ ro2 sd2 M2, RelS X.K X.mg ro2 M2 H2 ∧ RepSt X.K X.mg ro2 H2 sd2 st2 ∧ Pres ro1 H1 ro2 H2 ∧ PostS X.K X.mg W ro2 H2 D0 (forGo it.chk g sb (it.ds.drop (i + 1)) sd2 M2),
        fun st2 H2 ⟨ro2, sd2, M2, R2, S2, P2, q2⟩ => ⟨it.ds.length - (i + 1), by omega, rfl, hlt, ro2, sd2, M2, R2, S2, P2, q2⟩, fun x H'' y => ?_⟩
      obtain ⟨hgrow, hrep⟩ := hy x H'' y
      obtain ⟨R'', P''⟩ := R'.grow hgrow
      cases hgd : g it.ds[i] sd' with
      | none => rw [hgd] at q'; exact q'.elim
      | some sd1 =>
        rw [hgd] at q'
        refine ⟨ro', sd', M', _, R'', S'.mono P'', hrep, sd1, hgd, fun st1 S1 _ => ?_⟩
        refine ⟨ro', sd1, M', R'', S1, ?_⟩
        have q' := q'
        dsimp only at q'
        cases hbd : sb sd1 M' with
        | nx sd2 M2 => rw [hbd] at q'; exact fun ro2 H2 st2 R2 P2 S2 => ⟨ro2, sd2, M2, R2, S2, (P'.trans P'').trans P2, PostS.moves q' (P''.trans P2)⟩
        | ct sd2 M2 => rw [hbd] at q'; exact fun ro2 H2 st2 R2 P2 S2 => ⟨ro2, sd2, M2, R2, S2, (P'.trans P'').trans P2, PostS.moves q' (P''.trans P2)⟩
        | brk sd2 M2 => rw [hbd] at q'; exact fun ro2 H2 st2 R2 P2 S2 => q' ro2 H2 st2 R2 (P''.trans P2) S2
        | ret v M2 => rw [hbd] at q'; exact fun ro2 H2 st2 R2 P2 S2 => q' ro2 H2 st2 R2 (P''.trans P2) S2
        | exc C ns ds sd2 M2 => rw [hbd] at q'; exact fun ro2 H2 st2 cls dd R2 P2 S2 r => q' ro2 H2 st2 cls dd R2 (P''.trans P2) S2 r
        | stuck => rw [hbd] at q'; exact q'
    · rw [if_neg hc] at q'; exact q'.elim
  · have e : i = it.ds.length := by omega
    subst e
    rw [List.drop_length] at q'
    unfold forGo at q'
    by_cases hc : it.chk M'
    · rw [if_pos hc] at q'
      exact .inl ⟨(J1 ro' H' M' R' P'.w hc).1, q' ro' H' st' R' (Pres.refl _ _) S'⟩
    · rw [if_neg hc] at q'; exact q'.elim
end
theorem funT_ok {P : Program} {w : World} {K : PySem.W.Frag} {mg : Str → Option Value} {base : Heap} {x qual : Str} {st : Stmt} {dvs : List V} {kws : List (Str × V)} {f : Addr} {fd : FuncData} {N ps : List Str} {k : Nat} {body : MST} (Fn : FnP K x qual st dvs kws f fd) (S : FnScope N ps (defScope st)) (hnc : ∀ y ∈ (defScope st).names, y.2 ≠ .cell) (hps : 1 ≤ ps.length)
    (hbody : ∀ (cdv : Value) (A : Around) (outer : List Env) (s : Shared) (H : Hp) (E : XK), Room k (A.deeper (envOfC qual (defScope st) s.heap.objs.size f cdv)) →
      Ctx (cxOf (L2.CX P w) P w K mg base N qual (defScope st) f cdv A outer s H E) (fun cls d _ H' => E cls d H') →
      DSsT (cxOf (L2.CX P w) P w K mg base N qual (defScope st) f cdv A outer s H E) (fun cls d _ H' => E cls d H') (defBody st) body) : DOk P w K mg base (k + 1) f fd ps (runD N.length body) := by
  obtain ⟨⟨oc, od, dV, kV, doc, pm, an, cdv, ct, osl, rfl, lk, cd, _, _⟩, kp⟩ := Fn
  refine fn_ofT lk cd S hnc hps (fun vs H Q E h => h.1) fun A outer s H vs Q E hr h => ?_
  obtain ⟨hl, ro, ds, M, R, rs, Po⟩ := h
  have hc : Ctx (cxOf (L2.CX P w) P w K mg base N qual (defScope st) f cdv A outer s H E) (fun cls d _ H' => E cls d H') := ⟨takes_of rfl rfl rfl rfl, passes_of rfl, rfl⟩
  refine ⟨_, (hbody cdv A outer s H E hr hc).ps, ro, startD N.length ds, M, R, repSt_start rs, ?_⟩
  unfold runD at Po
  cases e : body (startD N.length ds) M with
  | nx sd M' => rw [e] at Po; exact fun ro' H' st rs q r => Po ro' H' .non rs q rfl
  | ret d M' => rw [e] at Po; exact Po
  | exc C ns ds' sd M' => rw [e] at Po; exact fun ro' H' st cls dd rs q _ r => Po ro' H' cls dd rs q r
  | brk sd M' => rw [e] at Po; exact Po.elim
  | ct sd M' => rw [e] at Po; exact Po.elim
  | stuck => rw [e] at Po; exact Po
end DL

/-! DL: x == [] by the length alone. -/
namespace DL
open PySem PySem.Spec L2
open PyProof.Rows hiding St
def eqNil (d e : D) (M : MS) : Res D := match lstOf M d, lstOf M e with
  | some ds, some [] => .ok (.bl ds.isEmpty) M
  | _, _ => .stuck
theorem opS_eqNil {X : Cx} (hu0 : X.A.units + 64 < cLine) : OpS X (compareOp .Eq) eqNil := by
  have hu : X.A.units < cLine := by omega
  refine ⟨fun x y H Q => ∃ (a b : Addr) (vs : List V), x = .ref a ∧ y = .ref b ∧ H a = some (.lst vs) ∧ H b = some (.lst []) ∧ Q (.bl vs.isEmpty) H, ?_, fun ro H M d e x y E Q R rx ry P => ?_⟩
  · rintro pins s σ H x y v u Q I rx ry ⟨a, b, vs, rfl, rfl, ha, hb, q⟩
    obtain rfl : v = Value.ref a := rx
    obtain rfl : u = Value.ref b := ry
    obtain ⟨z, its, k1, r, e⟩ := I.hok a _ ha
    obtain ⟨z2, its2, k2, r2, e2⟩ := I.hok b _ hb
    cases r2
    by_cases hv : vs = []
    · subst hv
      cases r
      exact PySem.SeqAt.eq_listAt (e := fun _ => true) ⟨_, e, rfl, k1, rfl⟩ ⟨_, e2, rfl, k2, rfl⟩ rfl hu (fun j h1 => absurd h1 (by simp)) ⟨.bl true, H, I, rfl, q⟩
    · have hl : its.length ≠ 0 := fun h => hv (List.eq_nil_of_length_eq_zero (by rw [r.length]; exact h))
      have q : Q (.bl false) H := by
        have : vs.isEmpty = false := by cases vs with
          | nil => exact absurd rfl hv
          | cons _ _ => rfl
        rwa [this] at q
      exact PySem.SeqAt.eq_list_lengthsAt ⟨_, e, rfl, k1, rfl⟩ ⟨_, e2, rfl, k2, rfl⟩ (by simpa using hl) hu ⟨.bl false, H, I, rfl, q⟩
  · unfold eqNil at P
    split at P
    · rename_i ds h1 h2
      obtain ⟨a, vs, rfl, ha, qa⟩ := lst_of R rx h1
      obtain ⟨b, ws, rfl, hb, qb⟩ := lst_of R ry h2
      have l1 := qa.len
      have l2 := qb.len
      have : ws = [] := List.eq_nil_of_length_eq_zero (by rw [← l2]; rfl)
      subst this
      refine ⟨a, b, vs, rfl, rfl, ha, hb, ?_⟩
      have e : vs.isEmpty = ds.isEmpty := by
        cases vs <;> cases ds <;> simp at l1 ⊢
      rw [e]
      exact PostD.pure (d := .bl ds.isEmpty) R rfl P
    · exact P.elim
end DL

/-! DL: exceptions without fields: raise C(). -/
namespace DL
open PySem PySem.Spec L2
open PyProof.Rows hiding St

/-- the end of C(): the exception is let go, it has no dict -/
theorem mk_endN {X : Cx} {pins : List (Addr × Obj)} {σ : L2.St} {H1 H2 : Hp} {Q : XK} {hp hp2 h2 : Heap} {g1 g2 : Array GenState} {d1 d2 : Drawn} {t1 t2 : Nat} {os1 os2 : OsState} {a C : Addr} (T : Raises X (.ref C)) (I1 : Inv X pins σ H1 ⟨hp, g1, d1, t1, os1⟩)
    (ha : hp.objs.size ≤ a) (k : ∀ b o, hp.get? b = some o → hp2.get? b = some o) (un : Un (frs X.stack) [] (upd H1 a (exo a C none)) H2 hp2 h2) (hok : HOk X.prog X.w H2 h2) (ho : os2 = os1) (hb : AllBare g2)
    (ea : H2 a = some (exo a C none)) (q : Q (.ref C) none (del H2 a)) : MkP X pins σ Q (.ref a) ⟨h2, g2, d2, t2, os2⟩ := by
  obtain ⟨t0, hoe⟩ := exo_at hok ea
  have hn : H1 a = none := I1.hok.fresh ha
  obtain ⟨G, g1', g2'⟩ := restrict h2 fun b => decide (b ≠ a)
  have gk : ∀ b, b ≠ a → G.get? b = h2.get? b := fun b hb => g1' b (decide_eq_true hb)
  have ge : G.get? a = none := g2' a (by simp)
  have nha : ∀ {b : Addr} {o : Obj}, hp.get? b = some o → b ≠ a := fun {b o} z => Nat.ne_of_lt (Nat.lt_of_lt_of_le (Heap.lt_size z) ha)
  have up : ∀ {b : Addr}, b ≠ a → H1 b = none → upd H1 a (exo a C none) b = none := fun {b} hb n => by rw [upd_ne hb]; exact n
  have U : Un (frs X.stack) [] H1 (del H2 a) hp G := {
    keep := fun b o z n hf hx => by
      rw [gk b (nha z)]
      exact un.keep b o (k b o z) (up (nha z) n) hf hx
    slot := fun b o z n hf hx => by
      rw [gk b (nha z)]
      exact un.slot b o (k b o z) (up (nha z) n) hf hx
    free := fun b o z n hx => by
      rw [del_ne (nha z)]
      exact un.free b o (k b o z) (up (nha z) n) hx
    there := fun b o z hx => by
      rw [gk b (nha z)]
      exact un.there b o (k b o z) hx
    tups := fun b xs z => by
      rw [del_ne (ne_of_none z hn)]
      exact un.tups b xs (by rw [upd_ne (ne_of_none z hn)]; exact z)
    frzs := fun b o v z => by
      rw [del_ne (ne_of_none z hn)]
      exact un.frzs b o v (by rw [upd_ne (ne_of_none z hn)]; exact z)
    tbls := fun b ps z => by
      rw [del_ne (ne_of_none z hn)]
      exact un.tbls b ps (by rw [upd_ne (ne_of_none z hn)]; exact z) }
  have hok3 : HOk X.prog X.w (del H2 a) G := fun b o z => by
    have hba : b ≠ a := fun e => by
      rw [e, del_same] at z
      cases z
    rw [del_ne hba] at z
    have noa : ∀ {c : Addr}, H2 c = some (.own b) → c ≠ a := fun {c} hc => at_ne ea hc exo_own
    exact (hok b o z).stay (fun c v hc y => by
        have hca : c ≠ a := by
          rcases hc with hc | hc
          · rw [hc]
            exact hba
          · exact noa hc
        rw [gk c hca]
        exact y)
      (fun c hc => by rw [del_ne (noa hc)]; exact hc) (fun c xs hc => by rw [del_ne (at_ne ea hc exo_tup)]; exact hc)
  have J : Inv X pins σ (del H2 a) ⟨G, g2, d2, t2, os2⟩ := I1.call' (ch := []) ho U hok3 hb (fun b z => absurd z (by simp))
  refine ⟨a, _, _, ⟨G, g2, d2, t2, os2⟩, _, .ref C, none, rfl, J, fun b o z => ?_, ge, hoe, ⟨rfl, rfl⟩, rfl, rfl, del_same, rfl, hb, T, q⟩
  by_cases hba : b = a
  · rw [hba, ge] at z
    cases z
  · exact (gk b hba).symm.trans z
/-- C() -/
def tMkO0 (C : Addr) (sp : Sp) : L2.St → Hp → XK → Prop := fun σ H1 Q => ∀ a, H1 a = none → sp [.ref a] (upd H1 a (exo a C none))
  (fun v H2 => v = .non ∧ H2 a = some (exo a C none) ∧ Q (.ref C) none (del H2 a)) (fun _ _ _ => False)
section
variable {X : Cx} {p pos : Pos}
theorem pmk_oex0 {CX : CXT} {x : Str} {C fI : Addr} {k : Nat} {fd : FuncData} {ps : List Str} {sp : Sp} (T : OexC X.K C) (iC : PySem.W.findIn X.K (.ref C) "__init__" = some (some (.ref fI))) (tI : PySem.W.typeIn X.K (.ref fI) = some (.type "function"))
    (F1 : FnOk X.prog X.w X.K X.mg X.base CX k fI fd ps sp) (hr : Room (k + 1) X.A) (hb : Binds X.K fd ps []) (hx : Passes CX X (fun _ _ _ => False)) (hg : Gl X x) (hm : X.mg x = some (.ref C))
    (hdb : (x == ("__debug__" : Str)) = false := by decide) :
    PMk X (.Call (.Name x p) [] [] pos) (tMkO0 C sp) := by
  intro pins s σ H1 Q I h
  obtain ⟨nm, q, N, bs, bm, sn, sub, ab, col, dd, k0, k1, k2, k3, k5, hC, hbm⟩ := T.cls
  refine wpAny_Call_Name_kw (ld_glob I hg hm ?_ hdb)
  refine PySem.W.callWith_K0 I.kIn T.kC ?_
  show wpAny _ _ (call (.ref C) []) _ _ _
  have I1 := I
  obtain ⟨hp, g, dr, tk, os⟩ := s
  have hsz : hp.objs.size ≤ hp.objs.size + 1 := Nat.le_succ _
  have hn : H1 (hp.objs.size + 1) = none := I1.hok.fresh hsz
  have hq := h (hp.objs.size + 1) hn
  have kk : ∀ b o, hp.get? b = some o → ((hp.push (PySem.W.kdv_tup [])).push (PySem.HandSPX.excO C hp.objs.size)).get? b = some o := fun b o e => Heap.get?_push_of_some _ (Heap.get?_push_of_some _ e)
  have hget : ((hp.push (PySem.W.kdv_tup [])).push (PySem.HandSPX.excO C hp.objs.size)).get? (hp.objs.size + 1) = some (PySem.HandSPX.excO C hp.objs.size) := by heap_get
  have I2 : Inv X pins σ (upd H1 (hp.objs.size + 1) (exo (hp.objs.size + 1) C none)) ⟨(hp.push (PySem.W.kdv_tup [])).push (PySem.HandSPX.excO C hp.objs.size), g, dr, tk, os⟩ :=
    I1.laid (t' := tk) (a := hp.objs.size + 1) (o := exo (hp.objs.size + 1) C none) (h' := (hp.push (PySem.W.kdv_tup [])).push (PySem.HandSPX.excO C hp.objs.size)) kk hsz (exo_ok hget)
  have r2 : Vals [V.ref (hp.objs.size + 1)] [Value.ref (hp.objs.size + 1)] := .cons rfl .nil
  have hl : [Value.ref (hp.objs.size + 1)].length = ps.length := by
    have e := r2.length
    rw [F1.len _ _ _ _ hq] at e
    exact e.symm
  refine wpAny_call (PySem.HandSPX.call_own F.excBase_ValueError (fun Y => PySem.HandSPX.refsVE_contains Y bm hbm) (I1.kIn _ _ hC) (PySem.W.looks_findIn I1.kIn iC) (fun self => PySem.W.bind_fn I1.kIn self tI) (by rw [sizeLine_eq]; simp)
    (codeAny_mono (F1.run _ X.stack _ _ ⟨[Value.ref (hp.objs.size + 1)], []⟩ [Value.ref (hp.objs.size + 1)] _ _ (fun _ _ _ => False) (hr.make C [] []) (I2.env0.make C [] []) (by
      have b := hb { heap := (hp.push (PySem.W.kdv_tup [])).push (PySem.HandSPX.excO C hp.objs.size), gens := g, drawn := dr, toks := tk, os := os } [Value.ref (hp.objs.size + 1)] I2.kIn (by simpa using hl)
      rw [List.append_nil] at b
      exact b) r2 hq) fun r s' hq' => ?_))
  cases r with
  | error er => exact hx pins σ _ _ er s' I2 hq'
  | ok fl =>
    cases fl with
    | ret u =>
      obtain ⟨v, H2, os2, bare2, un2, hok2, rv, ev, ea, q2⟩ := hq'
      subst ev
      obtain ⟨h2, g2, d2, t2, os'⟩ := s'
      exact ⟨rv, mk_endN (raises_own T.exC T.tyC) I1 hsz kk un2 hok2 os2 bare2 ea q2⟩
    | next => exact False.elim hq'
    | brk => exact False.elim hq'
    | cont => exact False.elim hq'
end
def spI0 (K : PySem.W.Frag) (C : Addr) : Sp := fun vs H Q _ => ∃ a, vs = [.ref a] ∧ H a = some (exo a C none) ∧ OexC K C ∧ Q .non H
section
variable {P : Program} {w : World} {K : PySem.W.Frag} {mg : Str → Option Value} {base : Heap}
theorem init0_ok {x qual : Str} {st : Stmt} {f C B : Addr} {fd : FuncData} {bn sn : Str} {m : Str} {j : Nat} {p1 p2 p3 p4 p5 p6 : Pos} (Fn : FnP K x qual st [] [] f fd) (S : FnScope [sn] [sn] (defScope st))
    (hB : mg bn = some (.ref B)) (b : BaseX K B) (hdb : (bn == ("__debug__" : Str)) = false := by decide)
    (hbody : defBody st = [.Expr (.Call (.Attribute (.Name bn p1) "__init__" p2) [.Name sn p3, .Constant (.str m) j p4] [] p5) p6] := by rfl)
    (hg : ∀ (cdv : Value) (A : Around) (outer : List Env) (s : Shared) (H : Hp) (E : XK), Gl (cxOf (L2.CX P w) P w K mg base [sn] qual (defScope st) f cdv A outer s H E) bn := by intros; rfl)
    (hc : ∀ (cdv : Value) (A : Around) (outer : List Env) (s : Shared) (H : Hp) (E : XK), ∃ pl, eval (.Call (.Attribute (.Name bn p1) "__init__" p2) [.Name sn p3, .Constant (.str m) j p4] [] p5) (cxOf (L2.CX P w) P w K mg base [sn] qual (defScope st) f cdv A outer s H E).env = (do
      let ov ← eval (.Name bn p1) (cxOf (L2.CX P w) P w K mg base [sn] qual (defScope st) f cdv A outer s H E).env
      standAt p2.atName
      let (f', first) ← holding [ov] (getMethod ov "__init__" pl)
      callWith p5 f' first (backTo p5 (starEach [.Name sn p3, .Constant (.str m) j p4] (cxOf (L2.CX P w) P w K mg base [sn] qual (defScope st) f cdv A outer s H E).env)) (backToKw p5 (keywordEach [] (cxOf (L2.CX P w) P w K mg base [sn] qual (defScope st) f cdv A outer s H E).env))) := by intros; exact ⟨_, rfl⟩)
    (v1 : Vis (defScope st) sn := by exact Or.inl rfl) (d1 : (sn == ("__debug__" : Str)) = false := by decide) (c1 : (sn == ("__classdict__" : Str)) = false := by decide) :
    FnOk P w K mg base (L2.CX P w) 1 f fd [sn] (spI0 K C) := by
  refine FunD.ok (k := 0) Fn S (fun vs H Q E h => ?_) fun cdv A outer s H vs Q E hr h => ?_
  · obtain ⟨a, rfl, _⟩ := h; rfl
  · obtain ⟨a, rfl, ea, T, q⟩ := h
    rw [hbody]
    obtain ⟨pl, hc⟩ := hc cdv A outer s H E
    refine ⟨_, pss_one (ps_expr (pe_binit (pl := pl) (hg cdv A outer s H E) hB b (pa_cons (pe_var (i := 0) rfl v1 d1 c1) (pa_cons pe_str pa_nil)) hdb hc)), ?_⟩
    exact ⟨_, rfl, a, C, [_], rfl, by simp, T, ea, q⟩
end
section
variable {X : Cx} {W : WX} {C : String} {c fI : Addr} {fd : FuncData} {ps : List Str} {p pos pos2 : Pos}
theorem ds_raise0 (cx : Ctx X W) (T : ExC X.K X.mg C c fI []) (F1 : FnOk X.prog X.w X.K X.mg X.base (L2.CX X.prog X.w) 1 fI fd ps (spI0 X.K c)) (hr : Room 2 X.A) (hb : Binds X.K fd ps []) (hg : Gl X (Str.ofString C))
    (hdb : (Str.ofString C == ("__debug__" : Str)) = false := by decide) :
    DS X W (.Raise (some (.Call (.Name (Str.ofString C) p) [] [] pos)) none pos2) (excS C [] nilA) := by
  refine ⟨⟨fun pins s st H D0 I q => (ps_raise cx.calm cx.tk (pmk_oex0 T.ox T.ini T.ity F1 hr hb pass_false hg T.mgC hdb)).run pins s st H D0 I ?_⟩⟩
  obtain ⟨ro, sd, M, R, S, P⟩ := q
  have P : PostS X.K X.mg W ro H D0 (.exc C [] [] sd M) := P
  intro a na
  refine ⟨a, rfl, upd_same, T.ox, rfl, upd_same, ?_⟩
  have eH : del (upd H a (exo a c none)) a = H := by
    funext b
    by_cases h2 : b = a
    · subst h2; rw [del_same, na]
    · rw [del_ne h2, upd_ne h2]
  rw [eH]
  exact P ro _ st (.ref c) none R (Pres.refl _ _) S ⟨c, rfl, T.mgC, .inl ⟨rfl, rfl, rfl⟩⟩
end
end DL

/-! DL: starred arguments beside keywords, methods with a star parameter. -/
namespace DL
open PySem PySem.Spec L2
open PyProof.Rows hiding St
section
open PySem.Calls
variable {M : Model} {A : Around} {E : Value → Shared → Prop} {s : Shared}
theorem ks_callW {f : Value} {first : List Value} {pos : Pos} {Q : Value → Shared → Prop} {P : Heap → Prop} {args : List (Bool × Sem Value)} {kws : List (Option Str × Sem Value)} (hst : args.any (·.1) = true)
    (hk : ∀ h, P h → ∃ k, (k = Keeper.frame ∨ k = Keeper.machine ∨ k = Keeper.boundFrame) ∧ PySem.W.Looks M h (keeperOf f) k)
    (h : wpAny M A (evalArgs f true args kws) (fun a s₁ => P s₁.heap ∧ wpAny M A (call f (first ++ a.pos) a.kw) Q E s₁) E s) : wpAny M A (callWith pos f first args kws) Q E s := by
  unfold callWith
  refine wpAny_bind (wpAny_holding (wpAny_mono h (fun a s₁ h₁ => wpAny_bind (wpAny_standAt ?_)) fun _ _ x => x))
  obtain ⟨k, hk', L⟩ := hk _ h₁.1
  simp only [hst, Bool.true_or]
  refine wpAny_bind (L.here ?_)
  have tail : ∀ {t : Sem Value}, wpAny M A t Q E s₁ → wpAny M A (t >>= fun r => holding [r] point >>= fun _ => pure r) Q E s₁ :=
    fun ht => wpAny_bind (wpAny_mono ht (fun r s₂ hr => wpAny_bind (wpAny_holding (wpAny_point (wpAny_pure hr)))) fun _ _ x => x)
  have marked (mk : Value) : wpAny M A (callMarked mk f (first ++ a.pos) a.kw) Q E s₁ := by unfold callMarked; exact Calls.wpAny_keep h₁.2
  rcases hk' with rfl | rfl | rfl <;> dsimp only <;> first | exact tail (marked _) | exact tail (PySem.wpAny_operating h₁.2)
theorem callWith_S2K {K : PySem.W.Frag} {env : Env} {pos : Pos} {f : Value} {first : List Value} {Q : Value → Shared → Prop} {h₀ : Heap} {e : Expr} {rest : List Expr} {kws : List Keyword} (_X : K.In h₀) (hk : PySem.W.keepIn K f = true) (hall : (backToKw pos (keywordEach kws env)).all (·.1.isSome) = true)
    (h : wpAny M A (spliced (backTo pos (starEach (e :: rest) env))) (fun vs s₁ => wpAny M A (evalAll ((backToKw pos (keywordEach kws env)).map (·.2)))
      (fun ks s₂ => K.In s₂.heap ∧ wpAny M A (call f (first ++ vs) (((backToKw pos (keywordEach kws env)).filterMap (·.1)).zip ks)) Q E s₂) E s₁) E s)
    (he : starEach (e :: rest) env = (false, eval e env) :: starEach rest env := by rfl) (hst : (backTo pos (starEach (e :: rest) env)).any (·.1) = true := by rfl) :
    wpAny M A (callWith pos f first (backTo pos (starEach (e :: rest) env)) (backToKw pos (keywordEach kws env))) Q E s :=
  ks_callW hst (PySem.W.keeps_K hk) (PyProof.Rows.evalArgs_kw2 hall h he)
end
/-- *e, the last argument -/
def starA (m : ME) : MA := fun sd M => (m sd M).bind fun d M1 => match seqOf M1 d with
  | some ds => .ok ds M1
  | none => .stuck
section
variable {X : Cx} {W : WX} {k : Nat} {f : Addr} {ks : List Str} {G : FG} {e o : Expr} {es : List Expr} {kws : List Keyword} {ma mk : MA} {m : ME} {mo : ME} {x : Str} {p pos apos sp_ : Pos}
theorem da_star (he : DE X W e m) (hs : starEach [.Starred e sp_] X.env = (true, eval e X.env) :: starEach [] X.env := by rfl) : DA X W [.Starred e sp_] (starA m) := by
  refine ⟨⟨fun pos pins s st H Q I q => (StX.pa_star he.pe pa_nil hs).run pos pins s st H Q I ?_⟩⟩
  obtain ⟨ro, sd, M, R, S, P⟩ := q
  refine ⟨ro, sd, M, R, S, (Post.bind P).imp fun y H1 ⟨ro1, M1, d, R1, P1, r1, q1⟩ => ?_⟩
  split at q1
  · rename_i ds hs'
    obtain ⟨a, xs, rfl, hx, rs⟩ := seq_of R1 r1 hs'
    refine ⟨a, xs, rfl, hx.symm, ?_⟩
    show Q (xs ++ []) H1
    rw [List.append_nil]
    exact q1 ro1 H1 _ R1 (Pres.refl _ _) rs
  · exact q1.elim
/-- x(e, .., *y, k = ..) -/
theorem de_callGS (hF : DOkG X.prog X.w X.K X.mg X.base k f ks G) (hr : Room k X.A) (tk : Takes X W) (hg : Gl X x) (hm : X.mg x = some (.ref f)) (hk : PySem.W.keepIn X.K (.ref f) = true) (ha : DA X W (e :: es) ma) (hkw : DK X W kws mk)
    (hall : (backToKw pos (keywordEach kws X.env)).all (·.1.isSome) = true := by rfl) (hks : (backToKw pos (keywordEach kws X.env)).filterMap (·.1) = ks := by rfl)
    (hdb : (x == ("__debug__" : Str)) = false := by decide) (he : starEach (e :: es) X.env = (false, eval e X.env) :: starEach es X.env := by rfl)
    (hst : (backTo pos (starEach (e :: es) X.env)).any (·.1) = true := by rfl) :
    DE X W (.Call (.Name x p) (e :: es) kws pos) (callGE ks.length G ma mk) := by
  refine ⟨⟨fun pins s st H Q I q => ?_⟩⟩
  obtain ⟨ro, sd, M, R, S, P⟩ := q
  refine wpAny_Call_Name_kw (ld_glob I hg hm ?_ hdb)
  refine callWith_S2K (h₀ := X.base) I.ok.mod.kin hk hall (thn (ha.pa.run pos pins s st H _ I ⟨ro, sd, M, R, S, Post.bind P⟩) fun us s1 ⟨vs, H1, I1, r, ro1, M1, ds, R1, P1, r1, q1⟩ => ?_) he hst
  refine thn (hkw.pk.run pos pins s1 st H1 _ I1 ⟨ro1, sd, M1, R1, S.mono P1, Post.bind q1⟩) fun ws s2 ⟨zs, H2, I2, rz, ro2, M2, es', R2, P2, r2, q2⟩ => ⟨I2.kIn, ?_⟩
  split at q2
  · rename_i hl
    rw [hks]
    exact run_G hF rfl hr tk I2 r rz R2 (Reps.mono P2 _ _ r1) r2 hl q2
  · exact q2.elim
/-- o.m(*y) -/
def methSE (C m : String) (G : FG) (mo me : ME) : ME := fun sd M => (mo sd M).bind fun d M1 => if insOf M1 C m d = true then (me sd M1).bind fun y M2 => match seqOf M2 y with
  | some ds => G (d :: ds) [] M2
  | none => .stuck else .stuck
theorem de_methS {C mn : String} {c : Addr} {fs : List String} {pl : Sem Bool} (ci : CInfo X.K X.mg C c fs) (hmt : Meth X.K c (Str.ofString mn) f) (hF : DOkG X.prog X.w X.K X.mg X.base k f [] G) (hr : Room k X.A) (tk : Takes X W) (ho : DE X W o mo) (he : DE X W e m)
    (hst : starEach [.Starred e sp_] X.env = [(true, eval e X.env)] := by rfl)
    (ht : eval (.Call (.Attribute o (Str.ofString mn) apos) [.Starred e sp_] [] pos) X.env = (do
      let ov ← eval o X.env
      standAt apos.atName
      let (f, first) ← holding [ov] (getMethod ov (Str.ofString mn) pl)
      callWith pos f first (backTo pos (starEach [.Starred e sp_] X.env)) (backToKw pos (keywordEach [] X.env))) := by rfl) :
    DE X W (.Call (.Attribute o (Str.ofString mn) apos) [.Starred e sp_] [] pos) (methSE C mn G mo m) := by
  refine ⟨⟨fun pins s st H Q I q => ?_⟩⟩
  obtain ⟨ro, sd, M, R, S, P⟩ := q
  refine PySem.W.methodCall_KW (pl := pl) (thn (ho.pe.run pins s st H _ I ⟨ro, sd, M, R, S, Post.bind P⟩) fun u s1 ⟨x, H1, I1, rx, ro1, M1, d, R1, P1, r1, q1⟩ => ?_) ht
  have q1 := q1
  split at q1
  · rename_i hi
    obtain ⟨a, dx, gs, rfl, hH, hl⟩ := ins_of ci R1 r1 hi
    obtain rfl : u = Value.ref a := rx
    refine getmeth_ok I1 hH ci.cl hmt hl ?_
    refine PySem.W.callWith_S (first := [.ref a]) (h₀ := X.base) I.ok.mod.kin hmt.kp (thn (he.pe.run pins s1 st H1 _ I1 ⟨ro1, sd, M1, R1, S.mono P1, Post.bind q1⟩) fun v s2 ⟨y, H2, I2, ry, ro2, M2, yd, R2, P2, r2, q2⟩ => ?_) hst
    have q2 := q2
    split at q2
    · rename_i ds hs
      obtain ⟨b, xs, rfl, hx, rs⟩ := seq_of R2 r2 hs
      obtain rfl : v = Value.ref b := ry
      exact StX.star_any I2 hx.symm fun us s3 I3 rv => ⟨I3.kIn, run_G (us := .ref a :: us) (vs := .ref a :: xs) (ds := d :: ds) (ws := []) (zs := []) (es := []) hF rfl hr tk I3 (.cons rfl rv) .nil R2 ⟨_, _, rfl, Rep.mono P2 _ _ r1, rs⟩ rfl rfl q2⟩
    · exact q2.elim
  · exact q1.elim
/-- o.m(), m with a star parameter -/
theorem de_methG0 {C mn : String} {c : Addr} {fs : List String} {pl : Sem Bool} (ci : CInfo X.K X.mg C c fs) (hmt : Meth X.K c (Str.ofString mn) f) (hF : DOkG X.prog X.w X.K X.mg X.base k f [] G) (hr : Room k X.A) (tk : Takes X W) (ho : DE X W o mo)
    (ht : eval (.Call (.Attribute o (Str.ofString mn) apos) [] [] pos) X.env = (do
      let ov ← eval o X.env
      standAt apos.atName
      let (f, first) ← holding [ov] (getMethod ov (Str.ofString mn) pl)
      callWith pos f first (backTo pos (starEach [] X.env)) (backToKw pos (keywordEach [] X.env))) := by rfl) :
    DE X W (.Call (.Attribute o (Str.ofString mn) apos) [] [] pos) (methGE C mn 0 G mo nilA nilA) := by
  refine ⟨⟨fun pins s st H Q I q => ?_⟩⟩
  obtain ⟨ro, sd, M, R, S, P⟩ := q
  refine PySem.W.methodCall_KW (pl := pl) (thn (ho.pe.run pins s st H _ I ⟨ro, sd, M, R, S, Post.bind P⟩) fun u s1 ⟨x, H1, I1, rx, ro1, M1, d, R1, P1, r1, q1⟩ => ?_) ht
  have q1 := q1
  split at q1
  · rename_i hi
    obtain ⟨a, dx, gs, rfl, hH, hl⟩ := ins_of ci R1 r1 hi
    obtain rfl : u = Value.ref a := rx
    refine getmeth_ok I1 hH ci.cl hmt hl ?_
    refine PySem.W.callWith_K0 (first := [.ref a]) I1.kIn hmt.kp ?_
    exact run_G (us := [.ref a]) (vs := [.ref a]) (ds := [d]) (ws := []) (zs := []) (es := []) hF rfl hr tk I1 (.cons rfl .nil) .nil R1 (Reps.one r1) rfl rfl q1
  · exact q1.elim
end
end DL

/-! DL: min of a list of ints. -/
namespace DL
open PySem PySem.Spec L2
open PyProof.Rows hiding St
def minI : List Int → Option Int
  | [] => none
  | x :: xs => match minI xs with
    | none => some x
    | some m => some (if x ≤ m then x else m)
theorem minI_none : ∀ {xs : List Int}, minI xs = none → xs = []
  | [], _ => rfl
  | x :: xs, h => by
    unfold minI at h
    cases e : minI xs <;> rw [e] at h <;> cases h
theorem minI_spec : ∀ {xs : List Int} {m : Int}, minI xs = some m → m ∈ xs ∧ ∀ y, y ∈ xs → m ≤ y
  | x :: xs, m, h => by
    unfold minI at h
    cases e : minI xs with
    | none =>
      rw [e] at h
      cases h
      rw [minI_none e]
      exact ⟨List.mem_cons_self, fun y hy => by rw [List.mem_singleton.mp hy]; exact Int.le_refl _⟩
    | some k =>
      rw [e] at h
      obtain ⟨h1, h2⟩ := minI_spec e
      have h : some (if x ≤ k then x else k) = some m := h
      by_cases hx : x ≤ k
      · rw [if_pos hx] at h
        cases h
        refine ⟨List.mem_cons_self, fun y hy => ?_⟩
        rcases List.mem_cons.mp hy with rfl | hy
        · exact Int.le_refl _
        · exact Int.le_trans hx (h2 y hy)
      · rw [if_neg hx] at h
        cases h
        refine ⟨List.mem_cons_of_mem _ h1, fun y hy => ?_⟩
        rcases List.mem_cons.mp hy with rfl | hy
        · omega
        · exact h2 y hy
def minF (ds : List D) (M : MS) : Res D := match (lst1 ds M).bind intsOf with
  | some bs => (match minI bs with
    | some m => .ok (.int m) M
    | none => .stuck)
  | none => .stuck
theorem callS_minL {X : Cx} (hc : X.calm = true) : CallS X (.builtin "min") minF := by
  refine ⟨_, cr_min hc, fun ro H M ds xs E Q R rs P => ?_⟩
  unfold minF at P
  split at P
  · rename_i bs h
    split at P
    · rename_i m hm
      obtain ⟨es, h1, h2⟩ := Option.bind_eq_some_iff.mp h
      obtain ⟨a, vs, rfl, hq, q⟩ := lst1_at R rs h1
      rw [intsOf_eq h2] at q
      rw [Reps.ints q] at hq
      obtain ⟨m1, m2⟩ := minI_spec hm
      refine ⟨a, bs, rfl, hq, List.length_pos_of_mem m1, fun k k1 k2 => ?_⟩
      have e : k = m := Int.le_antisymm (k2 m m1) (m2 k k1)
      rw [e]
      exact PostD.pure (d := .int m) R rfl P
    · exact P.elim
  · exact P.elim
/-- list.index of ints -/
def indexIF (d : D) (ds : List D) (M : MS) : Res D := match ds with
  | [.int y] => (match (lst1 [d] M).bind intsOf with
    | some xs => if y ∈ xs then .ok (.int (xs.idxOf y : Nat)) M else .stuck
    | none => .stuck)
  | _ => .stuck
theorem eqV_int (a b : Int) : eqV (V.int a) (V.int b) = decide (a = b) := by
  have : eqV (V.int a) (V.int b) = (a == b) := by simp [eqV]
  rw [this]
  by_cases h : a = b
  · subst h; simp
  · simp [h]
theorem mtS_indexI {X : Cx} : MtS X "list" "list.index" indexIF := by
  refine ⟨_, mt_index, fun ro H M d ds x xs E Q R r rs P => ?_⟩
  unfold indexIF at P
  split at P
  · rename_i y
    split at P
    · rename_i bs h
      split at P
      · rename_i hy
        obtain ⟨es, h1, h2⟩ := Option.bind_eq_some_iff.mp h
        obtain ⟨a, vs, e1, hq, q⟩ := lst1_at R (Reps.one r) h1
        cases e1
        obtain ⟨v, rfl, rv⟩ := reps1 rs
        cases (show v = V.int y from rv)
        rw [intsOf_eq h2] at q
        rw [Reps.ints q] at hq
        have hi := List.idxOf_lt_length_iff.mpr hy
        have hg : bs[bs.idxOf y]? = some y := by
          rw [List.getElem?_eq_getElem hi]
          congr 1
          exact List.getElem_idxOf hi
        refine ⟨a, _, V.int y, bs.idxOf y, V.int y, rfl, rfl, hq, rfl, ?_, ?_, ?_, fun m z' hm hz => ?_, PostD.pure (d := .int _) R rfl P⟩
        · rw [List.all_eq_true]
          intro z hz
          obtain ⟨b, _, rfl⟩ := List.mem_map.mp hz
          rfl
        · rw [List.getElem?_map, hg]; rfl
        · rw [eqV_int]; simp
        · rw [List.getElem?_map] at hz
          cases hb : bs[m]? with
          | none => rw [hb] at hz; cases hz
          | some b =>
            rw [hb] at hz
            cases hz
            show eqV (V.int b) (V.int y) = false
            rw [eqV_int, decide_eq_false_iff_not]
            rintro rfl
            obtain ⟨hml, hme⟩ := List.getElem?_eq_some_iff.mp hb
            have := List.not_of_lt_findIdx (p := (· == b)) (xs := bs) (show m < bs.findIdx (· == b) from hm)
            simp [hme] at this
      · exact P.elim
    · exact P.elim
  · exact P.elim
end DL

/-! DL: o.m(*y): the bound method is made, then called. -/
namespace DL
open PySem PySem.Spec L2
open PyProof.Rows hiding St
section
variable {X : Cx} {W : WX} {k : Nat} {f : Addr} {G : FG} {e o : Expr} {m : ME} {mo : ME} {pos apos sp_ : Pos}
theorem de_methS2 {C mn : String} {c : Addr} {fs : List String} (ci : CInfo X.K X.mg C c fs) (b : BMeth X.K c (Str.ofString mn) f) (hF : DOkG X.prog X.w X.K X.mg X.base k f [] G) (hr : Room k X.A) (tk : Takes X W) (ho : DE X W o mo) (he : DE X W e m)
    (hbase : attributeBase o (Str.ofString mn) X.env (eval o X.env) = eval o X.env := by rfl) :
    DE X W (.Call (.Attribute o (Str.ofString mn) apos) [.Starred e sp_] [] pos) (methSE C mn G mo m) := by
  refine ⟨⟨fun pins s st H Q I q => ?_⟩⟩
  obtain ⟨ro, sd, M, R, S, P⟩ := q
  refine starcall_of hbase (thn (ho.pe.run pins s st H _ I ⟨ro, sd, M, R, S, Post.bind P⟩) fun u s1 ⟨x, H1, I1, rx, ro1, M1, d, R1, P1, r1, q1⟩ => ?_)
  have q1 := q1
  split at q1
  · rename_i hi
    obtain ⟨a, dx, gs, rfl, hH, hl⟩ := ins_of ci R1 r1 hi
    obtain rfl : u = Value.ref a := rx
    refine getbound_ok I1 hH ci.cl b hl fun p s2 hp I2 => ?_
    obtain ⟨R2, P2⟩ := R1.alloc (o := .met f a) hp
    have nm : p ∉ ro1.ro := fun hm => R1.fresh hp (by unfold Pl.all; exact List.mem_append_left _ hm)
    refine PySem.W.ks_call (P := PySem.W.MethP X.K p f (.ref a)) rfl (PySem.W.keeps_M b.fi) (PySem.W.ks_lone ?_)
    refine thn (he.pe.run pins s2 st _ _ I2 ⟨ro1, sd, M1, R2, (S.mono P1).mono P2, Post.bind (Post.moves q1 P2)⟩) fun v s3 ⟨y, H3, I3, ry, ro3, M3, yd, R3, P3, r3, q3⟩ => ?_
    have q3 := q3
    split at q3
    · rename_i ds hs
      obtain ⟨t, xs, rfl, hx, rs⟩ := seq_of R3 r3 hs
      obtain rfl : v = Value.ref t := ry
      have hm3 : H3 p = some (.met f a) := P3.keep _ _ upd_same nm
      refine StX.star_any I3 hx.symm fun us s4 I4 rv => ⟨met_P I4 hm3, ?_⟩
      refine wpAny_call (PySem.W.method_call (met_P I4 hm3).1 (codeAny_mono (hF X.A X.stack s4 H3 (.ref a :: us) [] (.ref a :: xs) [] Q (WE W st) ro3 (d :: ds) [] M3 hr I4.env0 (.cons rfl rv) .nil R3 ⟨_, _, rfl, Rep.mono P3 _ _ (Rep.mono P2 _ _ r1), rs⟩ rfl rfl q3) fun r s' hq => ?_))
      cases r with
      | error e => exact passAt tk st pins H3 s4 e s' I4 hq
      | ok fl =>
        cases fl with
        | ret u => exact I4.after hq
        | next => exact False.elim hq
        | brk => exact False.elim hq
        | cont => exact False.elim hq
    · exact q3.elim
  · exact q1.elim
end
end DL

/-! DL: a def with a star and a keyword whose default is taken. -/
namespace DL
open PySem PySem.Spec L2
open PyProof.Rows hiding St
section
variable {P : Program} {w : World} {K : PySem.W.Frag} {mg : Str → Option Value} {base : Heap}
/-- the binding looks the default up, then makes the tuple of the rest -/
def BindD (K : PySem.W.Frag) (fd : FuncData) (ps : List Str) (k1 pv : Str) (D : Addr) : Prop := ∀ (us rest : List Value) (u : Value), us.length = ps.length → ∃ (β γ : Type) (f1 : Option Value → Sem β) (f2 : β → Sem γ) (f3 : γ → Sem (List (Str × Value))) (a : β), bindArgs fd ⟨us ++ rest, []⟩ = ((nsGet D k1 >>= f1) >>= f2) >>= f3 ∧ f1 (some u) = pure a ∧ (f2 a >>= f3) = (newTuple rest >>= fun t => pure ((ps ++ [k1]).zip (us ++ [u]) ++ [(pv, t)]))
theorem funVKd_ok {x qual : Str} {st : Stmt} {v : V} {d : D} {f : Addr} {fd : FuncData} {N ps : List Str} {k1 pv : Str} {k : Nat} {body : MST} (Fn : FnP K x qual st [] [(k1, v)] f fd) (S : FnScope N (ps ++ [k1] ++ [pv]) (defScope st)) (hd : ∀ ro H, Rep K mg ro H d v)
    (hb : ∀ (D : Addr) (doc pm : Value) (an : Option Addr) (cdv ct : Value), BindD K (PySem.W.fnOf x qual (defArgs st) (defBody st) (defScope st) .none (.ref D) doc pm an cdv ct) ps k1 pv D)
    (hbody : ∀ (cdv : Value) (A : Around) (outer : List Env) (s : Shared) (H : Hp) (E : XK), Room k (A.deeper (envOfC qual (defScope st) s.heap.objs.size f cdv)) →
      Ctx (cxOf (L2.CX P w) P w K mg base N qual (defScope st) f cdv A outer s H E) (fun cls d _ H' => E cls d H') →
      DSs (cxOf (L2.CX P w) P w K mg base N qual (defScope st) f cdv A outer s H E) (fun cls d _ H' => E cls d H') (defBody st) body) : DOkG P w K mg base (k + 1) f [] (fun ds _ => gVK ps.length (runD N.length body) ds [d]) := by
  obtain ⟨oc, od, dV, kV, doc, pm, an, cdv, ct, osl, rfl, lk, hcd, hD, hK⟩ := Fn.ex
  rcases hD with ⟨_, rfl⟩ | ⟨e, _⟩
  · rcases hK with e | ⟨D0, rfl, hq⟩
    · cases e
    · obtain ⟨u, hu, ru⟩ := hq (k1, v) List.mem_cons_self
      intro A outer s H us ws vs zs Q E ro ds es M hr e0 r rz R rs rs2 hlk Po
      have lz := rs2.len
      have lw := rz.length
      have ew : ws = [] := List.eq_nil_of_length_eq_zero (by have h0 : es.length = 0 := hlk; omega)
      subst ew
      have Po : Post _ K mg _ ro H Q (gVK ps.length (runD N.length body) ds [d] M) := Po
      unfold gVK at Po
      split at Po
      · rename_i hl
        have ln := rs.len
        have r1 := Reps.take ps.length rs
        have r2 := Reps.drop ps.length rs
        have hn : H s.heap.objs.size = Option.none := e0.hok.fresh (Nat.le_refl _)
        have rv1 : ∀ n, Vals (vs.take n) (us.take n) := fun n => r.take n
        have rv2 : ∀ n, Vals (vs.drop n) (us.drop n) := fun n => r.drop n
        have lu := r.length
        have hz : (us.drop ps.length).length ≤ sizeLine := by rw [List.length_drop, sizeLine_eq]; omega
        refine StX.run_bnd lk hcd S hr e0 (G := fun xs H2 => ∃ p, H p = Option.none ∧ xs = vs.take ps.length ++ [v] ++ [V.ref p] ∧ H2 = upd H p (.tup (vs.drop ps.length))) (fun A' Ex Q' h => ?_) fun s2 H2 xs ⟨p, hp, ex, eH⟩ hr' => ?_
        · obtain ⟨β, γ, f1, f2, f3, a, e1, e2, e3⟩ := hb D0 doc pm an cdv ct (us.take ps.length) (us.drop ps.length) u (by rw [List.length_take]; omega)
          rw [List.take_append_drop] at e1
          have KX : K.In s.heap := e0.mod.kin.keeps fun b o e => (e0.bs b o e).1
          have l1 : PySem.W.Looks (model P w) s.heap (nsGet D0 k1 >>= f1) a := (PySem.W.looks_nsIn KX hu).andThen (PySem.W.Looks.of_pure e2)
          show wpAny (model P w) A' (bindArgs _ ⟨us, []⟩) _ _ _
          rw [e1, bind_assoc]
          refine wpAny_bind (l1 _ _ _ _ (fun _ _ e => e) ?_)
          rw [e3]
          refine wpAny_bind (wpAny_newTuple (wpAny_pure ?_) hz)
          have new : ObjOk P w (upd H s.heap.objs.size (.tup (vs.drop ps.length))) (s.heap.push ({ cls := .type "tuple", data := .seq (us.drop ps.length).toArray } : Obj)) s.heap.objs.size (.tup (vs.drop ps.length)) := ⟨by rw [(rv2 _).length]; exact hz, us.drop ps.length, rv2 _, ⟨_, Heap.get?_push_size _ rfl, rfl, _, rfl⟩⟩
          have un := StX.un_laid (fs := frs outer) (s := s) (o := ({ cls := .type "tuple", data := .seq (us.drop ps.length).toArray } : Obj)) (u := .tup (vs.drop ps.length)) hn
          have z := h _ _ (vs.take ps.length ++ [v] ++ [V.ref s.heap.objs.size]) (us.take ps.length ++ [u] ++ [Value.ref s.heap.objs.size]) (StX.env0_laid e0 new) un rfl (fun e s' => StX.cxUp outer s H _ _ E e s' un (fun b o q => Heap.get?_push_of_some _ q) rfl) (((rv1 _).append (.cons ru .nil)).append (.cons rfl .nil))
            (by simp only [List.length_append, List.length_take, List.length_cons, List.length_nil]; omega) ⟨_, hn, rfl, rfl⟩
          rw [List.zip_append (by simp only [List.length_append, List.length_take, List.length_cons, List.length_nil]; omega)] at z
          exact z
        · subst ex eH
          have hc : Ctx (cxOf (L2.CX P w) P w K mg base N qual (defScope st) f cdv A outer s2 (upd H p (.tup (vs.drop ps.length))) E) (fun cls d _ H' => E cls d H') := ⟨takes_of rfl rfl rfl rfl, passes_of rfl, rfl⟩
          obtain ⟨R2, P2⟩ := R.alloc (o := .tup (vs.drop ps.length)) hp
          have rs3 : Reps K mg ro (upd H p (.tup (vs.drop ps.length))) (ds.take ps.length ++ [d] ++ [.tup (ds.drop ps.length)]) (vs.take ps.length ++ [v] ++ [V.ref p]) :=
            ((Reps.mono P2 _ _ r1).append (Reps.one (hd _ _))).append (Reps.one ⟨p, _, rfl, .inl ⟨.inl upd_same, R.fresh hp⟩, Reps.mono P2 _ _ r2⟩)
          have Po2 := Post.moves Po P2
          refine ⟨_, (hbody cdv A outer s2 _ E hr' hc).ps, ro, startD N.length _, M, R2, repSt_start rs3, ?_⟩
          unfold runD at Po2
          cases e : body (startD N.length (ds.take ps.length ++ [d] ++ [.tup (ds.drop ps.length)])) M with
          | nx sd M' => rw [e] at Po2; exact fun ro' H' st rs q r => Po2 ro' H' .non rs q rfl
          | ret d M' => rw [e] at Po2; exact Po2
          | exc C ns ds' sd M' => rw [e] at Po2; exact fun ro' H' st cls dd rs q _ r => Po2 ro' H' cls dd rs q r
          | _ => rw [e] at Po2; exact Po2.elim
      · exact Po.elim
  · exact absurd rfl e
end
end DL

/-! DL: an own __iter__ that gives iter(a tuple of the object): walks over the object, list(object). -/
namespace DL
open PySem PySem.Spec L2
open PyProof.Rows hiding St
/-- an iterator over the tuple at l, at its place i -/
abbrev tiObj (l : Addr) (i : Nat) : Obj := { cls := .type "tuple_iterator", data := .fields #[.ref l, .int i 0] }
def ItTO (l it : Addr) (i : Nat) : HO := .ext fun h => h.get? it = some (tiObj l i)
theorem itTO_ok {P : Program} {w : World} {H : Hp} {h : Heap} {l it : Addr} {i : Nat} (e : h.get? it = some (tiObj l i)) : ObjOk P w H h it (ItTO l it i) := ⟨e, ⟨_, e⟩, fun h1 h2 q k => k _ q⟩
theorem itTO_get {X : Cx} {pins : List (Addr × Obj)} {σ : L2.St} {H : Hp} {s : Shared} {l it : Addr} {i : Nat} (I : Inv X pins σ H s) (e : H it = some (ItTO l it i)) : s.heap.get? it = some (tiObj l i) := (I.hok it _ e).1
section
variable {prog : Program} {w : World} {A : Around} {E : Value → Shared → Prop} {s : Shared} {l : Addr} {items : Array Value}
theorem call_iterT0 {Q : Value → Shared → Prop} (hl : s.heap.IsTuple l items) (h : Q (.ref s.heap.objs.size) { s with heap := s.heap.push (tiObj l 0) }) : wpAny (model prog w) A (call (.builtin "iter") [.ref l]) Q E s := by
  refine Calls.call_function_entry (by decide +kernel) (by decide +kernel) PySem.W.kdk_entry_iter (PySem.W.kdk_args_iter _) ?_
  unfold Builtin.«iter»
  refine wpAny_bind (m := someArgs "iter" 1 2 _) (wpAny_of_eq (a := [Value.ref l]) (by first | rfl | kernel_rfl!) ?_)
  show wpAny _ _ (pyIter (.ref l) >>= _) _ _ _
  refine wpAny_bind (wpAny_pyIter_tuple hl ?_)
  exact wpAny_pure ⟨_, rfl, h⟩
end
def rIterT (K : PySem.W.Frag) (n : Nat) : List V → Hp → VK → Prop := fun xs H Q => ∃ (l : Addr) (zs : List V), xs = [.ref l] ∧ SqT K H l zs ∧ ∀ it, H it = none → n ≤ it → Q (.ref it) (upd H it (ItTO l it 0))
theorem call_iterT {X : Cx} : CallR X (.builtin "iter") (rIterT X.K X.s_0.heap.objs.size) := by
  intro pins s σ H xs us Q I r h
  obtain ⟨l, zs, rfl, hq, q⟩ := h
  obtain rfl := Vals.ref1 r
  obtain ⟨its, rv, pl, hz⟩ := I.tuple hq
  refine call_iterT0 (show s.heap.IsTuple l its.toArray from pl) ?_
  exact ⟨.ref s.heap.objs.size, _, I.laid (t' := s.toks) (fun b u e => Heap.get?_push_of_some _ e) (Nat.le_refl _) (itTO_ok (Heap.get?_push_size _ rfl)), rfl, q _ (I.hok.fresh (Nat.le_refl _)) I.sz⟩
/-- a def's promise that knows where the heap ended at its entry -/
structure FnOkY (P : Program) (w : World) (K : PySem.W.Frag) (mg : Str → Option Value) (base : Heap) (k : Nat) (f : Addr) (fd : FuncData) (ps : List Str) (sp : Nat → Sp) : Prop where
  len : ∀ n vs H Q E, sp n vs H Q E → vs.length = ps.length
  run : ∀ (A : Around) (outer : List Env) (s : Shared) (H : Hp) (args : Args) (us : List Value) (vs : List V) (Q : VK) (E : XK), Room k A → Env0 P w K mg base A outer s H → BindsTo s fd args (ps.zip us) → Vals vs us → sp s.heap.objs.size vs H Q E →
    codeAny (model P w) A (.call (.ref f) args) (CR (L2.CX P w) outer P w H s Q E) s
/-- what __iter__ promises: an iterator over the tuple that is the field f -/
def spIt (K : PySem.W.Frag) (C : Addr) (f : Str) (n : Nat) : Sp := fun vs H Q _ => ∃ a dx fs l zs, vs = [V.ref a] ∧ H a = some (.ins C dx fs) ∧ fs.lookup f = some (.ref l) ∧ SqT K H l zs ∧ ∀ it, H it = none → n ≤ it → Q (.ref it) (upd H it (ItTO l it 0))
section
variable {P : Program} {w : World} {K : PySem.W.Frag} {mg : Str → Option Value} {base : Heap}
theorem FunD.okY {x qual : Str} {st : Stmt} {dvs : List V} {kws : List (Str × V)} {f : Addr} {fd : FuncData} {N ps : List Str} {k : Nat} {sp : Nat → Sp} (Fn : FnP K x qual st dvs kws f fd) (S : FnScope N ps (defScope st)) (len : ∀ n vs H Q E, sp n vs H Q E → vs.length = ps.length)
    (hbody : ∀ (cdv : Value) (A : Around) (outer : List Env) (s : Shared) (H : Hp) (vs : List V) (Q : VK) (E : XK), Room k (A.deeper (envOfC qual (defScope st) s.heap.objs.size f cdv)) → sp s.heap.objs.size vs H Q E →
      ∃ t, PSs (cxOf (L2.CX P w) P w K mg base N qual (defScope st) f cdv A outer s H E) (defBody st) t ∧ t { nx := fun _ H' => Q .non H', rt := Q } (L2.start N vs) H) : FnOkY P w K mg base (k + 1) f fd ps sp := by
  obtain ⟨oc, od, dV, kV, doc, pm, an, cdv, ct, osl, rfl, lk, hcd, _, _⟩ := Fn.ex
  refine ⟨len, fun A outer s H args us vs Q E hr e0 hb r hsp => ?_⟩
  have hl := len _ _ _ _ _ hsp
  have KX : K.In s.heap := e0.mod.kin.keeps fun b o e => (e0.bs b o e).1
  have lim : s.heap.NoLimit := e0.mod.nolimit.keeps fun b o e => (e0.bs b o e).1
  have hkind : ∀ y ∈ ps.zip us, (defScope st).names.lookup y.1 = some .local ∨ ((defScope st).names.lookup y.1 = some .cell ∧ ((cellsFrom (s.heap.objs.size + 1) (defScope st).names []).lookup y.1).isSome = true) := fun ⟨n, v⟩ hy => by
    rcases S.par n (List.of_mem_zip hy).1 with q | q
    · exact .inl q
    · exact .inr ⟨q, PySem.W.cellsFrom_some _ _ _ (.inl q)⟩
  refine codeAny_call_function hr.depth (KX _ _ lk) rfl S.co S.gen rfl (PySem.W.codeRec_of KX hcd) (hb _ _ _ _ ?_)
  refine wpAny_newFunctionEnv_cells S.kind hkind fun env he s1 x => ?_
  subst he
  refine ⟨lim.keeps x.toInCall.keep, codeAny_func ?_⟩
  obtain ⟨t, ht, hq⟩ := hbody cdv A outer s H vs Q E (hr.deeper _) hsp
  have I : Inv (cxOf (L2.CX P w) P w K mg base N qual (defScope st) f cdv A outer s H E) [] (start N vs) H s1 := inv_start S hr.hd e0 hl r x
  refine wpAny_mono (ht.run [] s1 (start N vs) H _ I hq) (fun fl s' hs => ?_) fun e s' hs => hs
  have fin : ∀ {σ' : L2.St} {H' : Hp} {v : V} {u : Value}, Inv (cxOf (L2.CX P w) P w K mg base N qual (defScope st) f cdv A outer s H E) [] σ' H' s' → RelV v u → Q v H' → CE outer P w H s Q u s' :=
    fun {σ' H' v u} J rv q => ⟨v, H', J.os, J.bare, J.base, J.hok, rv, q⟩
  cases fl with
  | ret u =>
    obtain ⟨v, σ', H', J, rv, q⟩ := hs
    exact fin J rv q
  | next =>
    obtain ⟨σ', H', J, q⟩ := hs
    exact fin (v := V.non) (u := Value.none) J rfl q
  | brk =>
    obtain ⟨_, _, _, q⟩ := hs
    exact False.elim q
  | cont =>
    obtain ⟨_, _, _, q⟩ := hs
    exact False.elim q
theorem iterF_ok {x qual : Str} {st : Stmt} {f : Addr} {fd : FuncData} {sn : Str} {C fld : String} {fls : List String} {c : Addr} {p1 p2 p3 p4 p5 : Pos} (Fn : FnP K x qual st [] [] f fd) (S : FnScope [sn] [sn] (defScope st))
    (ci : CInfo K mg C c fls) (hf : fld ∈ fls) (hm : mg "iter" = none)
    (hbody : defBody st = [.Return (some (.Call (.Name "iter" p1) [.Attribute (.Name sn p2) (Str.ofString fld) p3] [] p4)) p5] := by rfl)
    (hg : ∀ (cdv : Value) (A : Around) (outer : List Env) (s : Shared) (H : Hp) (E : XK), Gl (cxOf (L2.CX P w) P w K mg base [sn] qual (defScope st) f cdv A outer s H E) "iter" := by intros; rfl)
    (hb : ∀ (cdv : Value) (A : Around) (outer : List Env) (s : Shared) (H : Hp) (E : XK), attributeBase (.Name sn p2) (Str.ofString fld) (cxOf (L2.CX P w) P w K mg base [sn] qual (defScope st) f cdv A outer s H E).env (eval (.Name sn p2) (cxOf (L2.CX P w) P w K mg base [sn] qual (defScope st) f cdv A outer s H E).env) = eval (.Name sn p2) (cxOf (L2.CX P w) P w K mg base [sn] qual (defScope st) f cdv A outer s H E).env := by intros; rfl)
    (v1 : Vis (defScope st) sn := by exact Or.inl rfl) (d1 : (sn == ("__debug__" : Str)) = false := by decide) (c1 : (sn == ("__classdict__" : Str)) = false := by decide) :
    FnOkY P w K mg base 1 f fd [sn] (spIt K c (Str.ofString fld)) := by
  refine FunD.okY (k := 0) Fn S (fun n vs H Q E h => ?_) fun cdv A outer s H vs Q E hr h => ?_
  · obtain ⟨a, dx, fs, l, zs, rfl, _⟩ := h; rfl
  · obtain ⟨a, dx, fs, l, zs, rfl, ha, hl, hq, q⟩ := h
    rw [hbody]
    refine ⟨_, pss_one (ps_ret (pe_callB (call_iterT (X := cxOf (L2.CX P w) P w K mg base [sn] qual (defScope st) f cdv A outer s H E)) (hg cdv A outer s H E) hm (by decide +kernel) (pa_cons (pe_fld (pe_var (i := 0) rfl v1 d1 c1) (hb cdv A outer s H E)) pa_nil) (by decide) (by decide) rfl rfl)), ?_⟩
    refine ⟨_, rfl, a, c, dx, fs, .ref l, rfl, ha, ci.cl, ci.na fld hf, hl, ?_⟩
    exact ⟨l, zs, rfl, hq, q⟩
end
section
variable {X : Cx} {c fi : Addr} {fdI : FuncData} {psI : List Str} {n : Nat} {f : Str} {tg e : Expr} {te : TE}
theorem sp_none : Passes (L2.CX X.prog X.w) X (fun _ _ _ => False) := fun pins σ H s e s' I h => by
  obtain ⟨_, _, _, _, _, _, _, _, _, _, _, _, z⟩ := h
  exact z.elim
/-- pyIter of the object: an iterator has come, young and tracked -/
theorem iter_own {pins : List (Addr × Obj)} {σ : L2.St} {H : Hp} {s : Shared} {A : Around} {a dx l : Addr} {fs : List (Str × V)} {zs : List V} {Q : Value → Shared → Prop} (hs : PySem.W.findIn X.K (.ref c) "__iter__" = some (some (.ref fi))) (hf : PySem.W.isFn X.K (.ref fi) = true)
    (FI : FnOkY X.prog X.w X.K X.mg X.base n fi fdI psI (spIt X.K c f)) (bI : Binds X.K fdI psI []) (sb : Sub X n A) (I : Inv X pins σ H s)
    (ha : H a = some (.ins c dx fs)) (hl : fs.lookup f = some (.ref l)) (hq : SqT X.K H l zs)
    (q : ∀ it s', H it = none → X.s_0.heap.objs.size ≤ it → Inv X pins σ (upd H it (ItTO l it 0)) s' → Q (.ref it) s') : wpAny (model X.prog X.w) A (pyIter (.ref a)) Q X.xe s := by
  obtain ⟨mA, J, _⟩ := ins_get I.hok ha
  obtain ⟨od, J, _⟩ := J.look
  obtain ⟨m0, hF⟩ := I.fr
  refine PySem.W.owit_iter hF I.ok.mod.kin J hs hf ?_
  have e0 : Env0 X.prog X.w X.K X.mg X.base A X.stack s H := by
    have e := I.env0
    exact ⟨by rw [sb.fr]; exact e.frames, e.mod, e.bs, e.bsz, e.funs, e.frf, e.hok, e.bare⟩
  have hsp : spIt X.K c f s.heap.objs.size [.ref a] H (fun v H' => ∃ it, v = .ref it ∧ H it = none ∧ s.heap.objs.size ≤ it ∧ H' = upd H it (ItTO l it 0)) (fun _ _ _ => False) := ⟨a, dx, fs, l, zs, rfl, ha, hl, hq, fun it hn hy => ⟨it, rfl, hn, hy, rfl⟩⟩
  have hlen := FI.len _ _ _ _ _ hsp
  have r2 : Vals [V.ref a] [Value.ref a] := .cons rfl .nil
  refine wpAny_call (codeAny_mono (FI.run A X.stack s H ⟨[.ref a], []⟩ [.ref a] [.ref a] _ _ sb.room e0 (by
    have := bI s [.ref a] I.kIn (by simpa using hlen)
    simpa using this) r2 hsp) fun r s' hq' => ?_)
  cases r with
  | error e => exact sp_none pins σ H s e s' I hq'
  | ok fl =>
    cases fl with
    | next => exact False.elim hq'
    | brk => exact False.elim hq'
    | cont => exact False.elim hq'
    | ret u =>
      obtain ⟨v, H', I', rv, it, ev, hn, hge, eH⟩ := I.after hq'
      subst ev eH
      cases rv
      have hi := itTO_get I' upd_same
      have hT : s'.TypeIs (.ref it) "tuple_iterator" := ⟨_, hi, rfl⟩
      unfold PySem.W.OwitIt
      refine wpAny_specialOf (name := Str.ofString "__next__") hT F.slot_tuple_iterator_next.lookup ?_
      exact q it s' hn (Nat.le_trans I.sz hge) I'
/-- for x in o -/
def iOwn (K : PySem.W.Frag) (c : Addr) (f : Str) (te : TE) : TI := fun σ H R => te σ H fun x H1 => ∃ a dx fs l, x = .ref a ∧ H1 a = some (.ins c dx fs) ∧ fs.lookup f = some (.ref l) ∧ (∃ zs, SqT K H1 l zs) ∧ R (Itt K l) H1
theorem pi_own (hs : PySem.W.findIn X.K (.ref c) "__iter__" = some (some (.ref fi))) (hf : PySem.W.isFn X.K (.ref fi) = true)
    (FI : FnOkY X.prog X.w X.K X.mg X.base n fi fdI psI (spIt X.K c f)) (bI : Binds X.K fdI psI []) (hr : Room n X.A) (he : PE X e te) : PI X tg e (iOwn X.K c f te) := by
  refine ⟨fun pins s σ H R I h => ?_⟩
  refine thn (he.run pins s σ H _ I h) fun v s1 ⟨x, H1, I1, r1, a, dx, fs, l, ex, ha, hl, ⟨zs, hq⟩, q⟩ => ?_
  subst ex
  obtain rfl : v = Value.ref a := r1
  refine iter_own hs hf FI bI ⟨hr, rfl⟩ I1 ha hl hq fun it s' hn hy I' => ?_
  have hi := itTO_get I' upd_same
  have hd : ItX.dropH (upd H1 it (ItTO l it 0)) it = H1 := ItX.dropH_upd hn
  have I2 := ItX.inv_drop I' (a := it) (φ := fun h => h.get? it = some (tiObj l 0)) upd_same
  have F2 := ItX.inv_fp I' (a := it) upd_same hy
  rw [hd] at I2 F2
  refine ⟨it, [it], _, _, H1, rfl, I2, turn_tuple l it, ⟨_, hi, rfl, rfl⟩, fun b hb => ?_, q⟩
  have e : b = it := by simpa using hb
  rw [e]
  exact F2
end

/-! ### list(o) -/
section
variable {X : Cx} {c fi fl : Addr} {fdI fdL : FuncData} {psI psL : List Str} {k : Nat}
theorem sqT_upd {K : PySem.W.Frag} {H : Hp} {p l : Addr} {o : HO} {zs : List V} (h : SqT K H l zs) (hp : H p = none) : SqT K (upd H p o) l zs := by
  rcases h with h | h
  · refine .inl ?_
    rcases h with h | ⟨u, h⟩
    · exact .inl (upd_grow hp _ _ h)
    · exact .inr ⟨u, upd_grow hp _ _ h⟩
  · exact .inr h
theorem RelS.dropHid {K : PySem.W.Frag} {mg : Str → Option Value} {ro : Pl} {M : MS} {H : Hp} {it : Addr} {hd : List Addr} (R : RelS K mg ro M H) (e : ro.hid = it :: hd) (hn : it ∉ hd) : RelS K mg ⟨ro.ro, hd⟩ M (ItX.dropH H it) := by
  have hm : it ∈ ro.hid := by rw [e]; exact List.mem_cons_self
  have nro : ∀ a, a ∈ ro.ro → a ≠ it := fun a ha z => R.dis a ha (by rw [z]; exact hm)
  have PW : PresW ro H ro (ItX.dropH H it) := ⟨⟨[], by simp⟩, fun a o h n => by rw [ItX.dropH_ne (Pl.ne n hm)]; exact h, fun a h => .inl h⟩
  refine ⟨R.len, R.nd, fun a ha => ?_, fun a ha z => R.dis a ha (by rw [e]; exact List.mem_cons_of_mem _ z), fun i mo a h1 h2 => ?_⟩
  · have hne : a ≠ it := fun z => hn (by rw [← z]; exact ha)
    obtain ⟨o, ho⟩ := R.live a (by rw [e]; exact List.mem_cons_of_mem _ ha)
    exact ⟨o, by rw [ItX.dropH_ne hne]; exact ho⟩
  · obtain ⟨ho, h3, h4⟩ := R.at_ i mo a h1 h2
    refine ⟨ho, by rw [ItX.dropH_ne (nro a (List.mem_of_getElem? h2))]; exact h3, ?_⟩
    exact MRel.less (ro := ro) (ro' := ⟨ro.ro, hd⟩) rfl (fun b hb => by rw [e]; exact List.mem_cons_of_mem _ hb) (MRel.monoW PW h4)
/-- the rest of the walk: the items from i on go behind what stands in the list at p -/
theorem own_fill {Rs : PySem.Result → Shared → Prop} {pins : List (Addr × Obj)} {σ : L2.St} {p l it : Addr} {zs : List V} {A1 : Around} {H0 : Hp} (hfr : A1.in1.frames = X.A.frames) (hhd : A1.in1.handled = none) (hz : zs.length ≤ sizeLine)
    (hdone : ∀ s, Inv X pins σ (upd H0 p (.lst zs)) s → Rs (.ok (.ret .none)) s) : ∀ (n i : Nat) (s : Shared), zs.length - i = n → i ≤ zs.length → Inv X pins σ (upd H0 p (.lst (zs.take i))) s → SqT X.K (upd H0 p (.lst (zs.take i))) l zs →
      FpOk X pins (upd H0 p (.lst (zs.take i))) it → s.heap.IsTupleIter it l i → codeAny (model X.prog X.w) A1 (.builtin "list.extend.loop" ⟨[.ref p, .ref it, .none], []⟩) Rs s := by
  intro n
  induction n with
  | zero =>
    intro i s hn hi I hq F hit
    obtain rfl : i = zs.length := by omega
    refine codeAny_builtin PySem.F.entry_extend_loop ?_
    rw [Around.under_plainId PySem.F.plain_extend_loop _]
    show wpAny _ A1.in1 (pyNext (.ref it) >>= _) _ _ s
    obtain ⟨its, rv, pl, _⟩ := I.tuple hq
    have hl := rv.length
    obtain ⟨f0, f1, f2, f3, f4, f5⟩ := F
    refine wpAny_bind (wpAny_pyNext_tuple_end hhd hit (show s.heap.IsTuple l its.toArray from pl) (by simp; omega) fun h' eb => ?_)
    have I1 : Inv X pins σ (upd H0 p (.lst (zs.take zs.length))) { s with heap := h' } := I.turned (t' := s.toks) (fun b o hb e => eb b o hb e) f0 f1 f3 f4 f5
    rw [List.take_length] at I1
    exact wpAny_pure (hdone _ I1)
  | succ n ih =>
    intro i s hn hi I hq F hit
    have hlt : i < zs.length := by omega
    refine codeAny_builtin PySem.F.entry_extend_loop ?_
    rw [Around.under_plainId PySem.F.plain_extend_loop _]
    show wpAny _ A1.in1 (pyNext (.ref it) >>= _) _ _ s
    obtain ⟨its, rv, pl, _⟩ := I.tuple hq
    obtain ⟨u, hu, ru⟩ := rv.get (List.getElem?_eq_getElem hlt)
    obtain ⟨f0, f1, f2, f3, f4, f5⟩ := id F
    refine wpAny_bind (wpAny_pyNext_tuple_item hit (show s.heap.IsTuple l its.toArray from pl) (x := u) (by simpa using hu) fun h' st' sb => ?_)
    have I1 : Inv X pins σ (upd H0 p (.lst (zs.take i))) { s with heap := h' } := I.turned (t' := s.toks) (fun b o hb e => (sb.2 b hb).trans e) f0 f1 f3 f4 f5
    show wpAny _ A1.in1 (updateSeq p (·.push u) >>= _) _ _ _
    obtain ⟨z, its2, k2, r2, hl2, e2⟩ := I1.lstM (l := p) upd_same
    have htk : zs.take (i + 1) = zs.take i ++ [zs[i]] := by rw [List.take_append_getElem hlt]
    have hsz : its2.length = i := by rw [← r2.length, List.length_take]; omega
    refine wpAny_bind (wpAny_updateSeq e2 rfl (wpAny_pure ⟨plainId_quiet PySem.F.plain_extend_loop _, ?_⟩) (by rw [List.size_toArray]; omega) (by show (its2.toArray.push u).size ≤ sizeLine + 1; rw [Array.size_push, List.size_toArray]; omega))
    have I2 := I1.lset (f := (·.push u)) (its' := its2 ++ [u]) (ys := zs.take (i + 1)) (t' := s.toks) upd_same e2 (by simp) (by rw [htk]; exact r2.append (.cons ru .nil)) (by rw [List.length_take]; omega)
    rw [upd_upd] at I2
    have hne : it ≠ p := fun z => by rw [z, upd_same] at f0; cases f0
    refine ih (i + 1) _ (by omega) hlt I2 ?_ ?_ ?_
    · rcases hq with h | h
      · refine .inl ?_
        have hlp : l ≠ p := fun z => by
          rcases h with h | ⟨u, h⟩ <;> · rw [z, upd_same] at h; cases h
        rcases h with h | ⟨u, h⟩
        · exact .inl (by rw [upd_ne hlp] at h ⊢; exact h)
        · exact .inr ⟨u, by rw [upd_ne hlp] at h ⊢; exact h⟩
      · exact .inr h
    · exact ⟨by rw [upd_ne hne] at f0 ⊢; exact f0, f1, f2, f3, f4, f5⟩
    · exact st'.at fun o e => (Heap.get?_update_other h' _ (Ne.symm hne)).trans e
/-- list(o) by __iter__ and __len__ -/
def listOF (C f : String) (F : FM) (ds : List D) (M : MS) : Res D := match ds with
  | [.obj C' ns vs] => if C' = C then (match lookF ns vs f with
    | some (.tup es) => if es.length ≤ 1000000 then (F [.obj C' ns vs] M).ne.bind fun r M1 => (match r with
      | .int i => if 0 ≤ i ∧ i ≤ 1000000 then .ok (.lst es) M1 else .stuck
      | _ => .stuck) else .stuck
    | _ => .stuck) else .stuck
  | _ => .stuck
theorem listOF_dich {C f : String} {F : FM} {ds : List D} {M : MS} : (∃ d M', listOF C f F ds M = .ok d M') ∨ listOF C f F ds M = .stuck := by
  unfold listOF
  repeat' split
  all_goals first
    | exact .inr rfl
    | (generalize F _ M = x
       cases x with
       | stuck => exact .inr rfl
       | exc _ _ _ _ => exact .inr rfl
       | ok r M1 =>
         simp only [Res.ne_ok, Res.bind_ok]
         cases r with
         | int i =>
           dsimp only
           split
           · exact .inl ⟨_, _, rfl⟩
           · exact .inr rfl
         | _ => exact .inr rfl)
theorem own_run0 {A : Around} {pins : List (Addr × Obj)} {st : L2.St} {H : Hp} {s : Shared} {Q : VK} {us : List Value} {vs : List V} {ro : Pl} {ds : List D} {M : MS} {f : Addr} {fd : FuncData} {ps : List Str} {F : FM} (hF : DOk X.prog X.w X.K X.mg X.base k f fd ps F) (sb : Sub X k A) (hb : Binds X.K fd ps [])
    (I : Inv X pins st H s) (r : Vals vs us) (R : RelS X.K X.mg ro M H) (rs : Reps X.K X.mg ro H ds vs) (hl : ds.length = ps.length) (P : PostD X.K X.mg (fun _ _ _ => False) ro H Q (F ds M)) : wpAny (model X.prog X.w) A (call (.ref f) us) (EP X pins st Q) (fun _ _ => False) s := by
  have e0 : Env0 X.prog X.w X.K X.mg X.base A X.stack s H := by
    have e := I.env0
    exact ⟨by rw [sb.fr]; exact e.frames, e.mod, e.bs, e.bsz, e.funs, e.frf, e.hok, e.bare⟩
  refine wpAny_call (codeAny_mono (hF.run A X.stack s H ⟨us, []⟩ us vs Q (fun _ _ _ => False) sb.room e0 (by
    have := hb s us I.kIn (by rw [List.append_nil, ← r.length, ← rs.len]; exact hl)
    simpa using this) r ⟨by rw [← rs.len]; exact hl, ro, ds, M, R, rs, P⟩) fun r s' hq => ?_)
  cases r with
  | error e =>
    obtain ⟨_, _, _, _, _, _, _, _, _, _, _, _, z⟩ := hq
    exact z.elim
  | ok fl =>
    cases fl with
    | next => exact False.elim hq
    | brk => exact False.elim hq
    | cont => exact False.elim hq
    | ret u => exact I.after hq
theorem callS_listO {C f : String} {F : FM} (hc : X.mg (Str.ofString C) = some (.ref c)) (hs : PySem.W.findIn X.K (.ref c) "__iter__" = some (some (.ref fi))) (hf : PySem.W.isFn X.K (.ref fi) = true)
    (FI : FnOkY X.prog X.w X.K X.mg X.base 1 fi fdI psI (spIt X.K c (Str.ofString f))) (bI : Binds X.K fdI psI [])
    (hsL : PySem.W.findIn X.K (.ref c) "__len__" = some (some (.ref fl))) (hfL : PySem.W.isFn X.K (.ref fl) = true) (bL : Binds X.K fdL psL []) (FL : DOk X.prog X.w X.K X.mg X.base k fl fdL psL F) (hr : Room (k + 3) X.A) (hcalm : X.calm = true) (hps : psL.length = 1 := by rfl) :
    CallS X (.type "list") (listOF C f F) := by
  refine ⟨fun xs H Q => ∃ ro M ds, RelS X.K X.mg ro M H ∧ Reps X.K X.mg ro H ds xs ∧ PostD X.K X.mg (fun _ _ _ => False) ro H Q (listOF C f F ds M), ?_, fun ro H M ds xs E Q R rs P => ⟨ro, M, ds, R, rs, ?_⟩⟩
  · rintro pins s σ H xs us Q I rv ⟨ro, M, ds, R, rs, P⟩
    unfold listOF at P
    split at P
    · rename_i C' ns vs0
      obtain ⟨x, rfl, qx⟩ := reps1 rs
      obtain ⟨u, rfl, ru⟩ := vals1 rv
      split at P
      · rename_i hC
        subst hC
        obtain ⟨a, c', dx, ws, rfl, hmg, hH, hna, hlen, rws⟩ := id qx
        rw [hc] at hmg; cases hmg
        obtain rfl : u = Value.ref a := ru
        split at P
        · rename_i es hlk
          split at P
          · rename_i hes
            obtain ⟨vl, hvl, rvl⟩ := lookF_some rws hlk
            obtain ⟨l, zs, rfl, hST, rzs⟩ := id rvl
            have hzl : zs.length ≤ sizeLine := by rw [← rzs.len]; exact line_le hes
            have sb : Sub X (k + 1) X.A.in1.in1 := (Sub.in1 (Sub.in1 (⟨hr, rfl⟩ : Sub X (k + 3) X.A)))
            refine callType_codes (Q₁ := fun obj s₁ => obj = .ref s.heap.objs.size ∧ s₁ = { s with heap := s.heap.push { cls := .type "list", data := .seq #[] } }) PySem.F.called_list (PySem.F.typeCall_list_1 _) PySem.F.entry_list_init
              (code_list_new _ ⟨rfl, rfl⟩) fun obj s₁ h₁ => ?_
            obtain ⟨rfl, rfl⟩ := h₁
            have hS : (s.heap.push { cls := .type "list", data := .seq #[] }).get? s.heap.objs.size = some { cls := .type "list", data := .seq #[] } := Heap.get?_push_size _ rfl
            refine ⟨⟨_, hS, rfl⟩, PySem.F.args_list_init_2 _ _, ?_⟩
            generalize hp : s.heap.objs.size = p at *
            have fr : H p = none := I.hok.fresh (by rw [hp]; exact Nat.le_refl _)
            have I1 : Inv X pins σ (upd H p (.lst [])) { s with heap := s.heap.push { cls := .type "list", data := .seq #[] } } := by
              have := I.lnew (its := []) (t' := s.toks) .nil (Nat.zero_le _)
              rw [hp] at this; exact this
            show wpAny _ _ (do let old ← Builtin.List.listItems (.ref p); Builtin.List.listUpdate (.ref p) (fun _ => #[]); letGo old.toList.reverse; Builtin.List.listExtendWith (.ref p) (.ref a) .none) _ _ _
            refine wpAny_bind ?_
            unfold Builtin.List.listItems
            refine wpAny_bind (wpAny_seqItems hS rfl (wpAny_pure ?_))
            show wpAny _ _ (updateSeq p (fun _ => #[]) >>= fun _ => letGo (#[] : Array Value).toList.reverse >>= fun _ => Builtin.List.listExtendWith (.ref p) (.ref a) .none) _ _ _
            refine wpAny_bind (wpAny_updateSeq hS rfl ?_)
            have I2 := I1.lset (f := fun _ => #[]) (its := []) (its' := []) (ys := []) (t' := s.toks) upd_same hS rfl .nil (Nat.zero_le _)
            rw [upd_upd] at I2
            refine wpAny_bind (wpAny_letGo ?_)
            have hap : a ≠ p := fun z => by rw [z, fr] at hH; cases hH
            have ha2 : upd H p (.lst []) a = some (.ins c dx (zipF ns ws)) := by rw [upd_ne hap]; exact hH
            have R1 := R.hide (o := .lst []) fr
            unfold Builtin.List.listExtendWith
            obtain ⟨mA, J, _⟩ := ins_get I2.hok ha2
            obtain ⟨od, J, _⟩ := J.look
            refine wpAny_bind (J.type.here ?_)
            have h1 : Builtin.List.listSameRef (.ref p) (.ref a) = false := by simp [Builtin.List.listSameRef, Ne.symm hap]
            have h2 : (Value.ref c == Value.type "list") = false := rfl
            have h3 : (Value.ref c == Value.type "tuple") = false := rfl
            simp only [h1, h2, h3, Bool.or_false, Bool.false_eq_true, if_false]
            refine wpAny_bind (iter_own hs hf FI bI (sb.mono (by omega)) I2 ha2 hvl (sqT_upd hST.sq fr) fun it s3 hit hy I3 => ?_)
            have R3 := R1.hide (o := ItTO l it 0) hit
            have ha3 : upd (upd H p (.lst [])) it (ItTO l it 0) a = some (.ins c dx (zipF ns ws)) := upd_grow hit _ _ ha2
            obtain ⟨mA3, J3, _⟩ := ins_get I3.hok ha3
            obtain ⟨od3, J3, _⟩ := J3.look
            obtain ⟨m3, hF3⟩ := I3.fr
            refine wpAny_bind (wpAny_holding ?_)
            unfold Builtin.List.listLengthHint
            refine wpAny_bind (wpAny_bind (J3.type.here ((PySem.W.looks_findIn I3.kIn hsL).here ?_)))
            refine PySem.W.KFB.if_not rfl ?_
            refine PySem.W.KFB.if_so rfl ?_
            refine wpAny_bind (wpAny_rule ?_)
            obtain ⟨i, M1, eF, hi, q⟩ : ∃ i M1, F [.obj C' ns vs0] M = .ok (.int i) M1 ∧ (0 ≤ i ∧ i ≤ 1000000) ∧ PostD X.K X.mg (fun _ _ _ => False) ro H Q (.ok (.lst es) M1) := by
              cases eF : F [.obj C' ns vs0] M with
              | stuck => rw [eF] at P; exact P.elim
              | exc _ _ _ _ => rw [eF] at P; exact P.elim
              | ok r M1 =>
                rw [eF] at P
                simp only [Res.ne_ok, Res.bind_ok] at P
                cases r with
                | int i =>
                  dsimp only at P
                  split at P
                  · rename_i hi
                    exact ⟨i, M1, rfl, hi, P⟩
                  · exact P.elim
                | _ => exact P.elim
            have qx3 := Rep.monoW (PresW.hide (o := ItTO l it 0) hit) _ _ (Rep.monoW (PresW.hide (o := .lst []) fr) _ _ qx)
            have PL : PostD X.K X.mg (fun _ _ _ => False) ((ro.hide p).hide it) (upd (upd H p (.lst [])) it (ItTO l it 0)) (fun z H' => z = .int i ∧ ∃ ro', RelS X.K X.mg ro' M1 H' ∧ Pres ((ro.hide p).hide it) (upd (upd H p (.lst [])) it (ItTO l it 0)) ro' H') (F [.obj C' ns vs0] M) := by
              rw [eF]
              exact fun ro' H' v R' P' r' => ⟨r', ro', R', P'⟩
            refine wpAny_bind (wpAny_attempt (PySem.W.len_K hF3 I3.ok.mod.kin J3 hsL hfL (wpAny_mono (own_run0 (A := X.A.in1.in1.in1) (us := [.ref a]) (vs := [.ref a]) (ds := [.obj C' ns vs0]) FL sb.in1 bL I3 (.cons rfl .nil) R3 (Reps.one qx3) (by rw [hps]; rfl) PL) (fun w s4 hw => ?_) fun _ _ x => ?_)))
            · obtain ⟨z, H4, I4, rz, rfl, ro4, R4, P4⟩ := hw
              obtain ⟨t, e⟩ := (show ∃ t, w = Value.int i t from rz)
              cases e
              refine ⟨⟨hi.1, by omega⟩, ?_⟩
              have hnp : p ≠ it := fun z => by rw [← z, upd_same] at hit; cases hit
              have hro : p ∉ ro.all := R.fresh fr
              have hro2 : it ∉ (ro.hide p).all := R1.fresh hit
              have hp4 : H4 p = some (.lst []) := P4.keep p _ (by rw [upd_ne hnp, upd_same]) (show p ∉ ro.ro from Pl.out_ro hro)
              have hi4 : H4 it = some (ItTO l it 0) := P4.keep it _ upd_same (show it ∉ ro.ro from Pl.out_ro (p := ro.hide p) hro2)
              refine wpAny_bind (wpAny_pure ?_)
              show wpAny _ _ (if Builtin.List.listTooLong i.toNat = true then _ else _) _ _ _
              rw [if_neg (by rw [notLongL (line_le (by omega))]; decide)]
              refine wpAny_pure ?_
              have I5 : Inv X pins σ (ItX.dropH H4 it) { s4 with toks := s4.toks + 1 } := ItX.inv_drop (I4.tok _) (φ := fun h => h.get? it = some (tiObj l 0)) hi4
              have F5 := ItX.inv_fp (I4.tok (s4.toks + 1)) hi4 hy
              have hit5 : (show Shared from { s4 with toks := s4.toks + 1 }).heap.IsTupleIter it l 0 := ⟨_, itTO_get (I4.tok (s4.toks + 1)) hi4, rfl, rfl⟩
              have hp5 : ItX.dropH H4 it p = some (.lst []) := by rw [ItX.dropH_ne hnp]; exact hp4
              have PW4 : PresW ro H ⟨ro4.ro, ro.hid⟩ (upd (ItX.dropH H4 it) p (.lst zs)) := by
                refine ⟨P4.pre, fun b o hb nb => ?_, fun b hb => ?_⟩
                · have n1 : b ≠ p := fun z => by rw [z, fr] at hb; cases hb
                  have n2 : b ≠ it := fun z => by rw [z] at hb; rw [upd_ne (Ne.symm hnp)] at hit; rw [hit] at hb; cases hb
                  rw [upd_ne n1, ItX.dropH_ne n2]
                  exact P4.keep b o (by rw [upd_ne n2, upd_ne n1]; exact hb) (show b ∉ ro.ro from Pl.out_ro nb)
                · rcases List.mem_append.mp hb with hb | hb
                  · rcases P4.new b hb with z | z
                    · exact .inl (List.mem_append_left _ z)
                    · refine .inr ?_
                      by_cases n1 : b = p
                      · rw [n1]; exact fr
                      · by_cases n2 : b = it
                        · rw [n2, upd_same] at z; cases z
                        · rw [upd_ne n2, upd_ne n1] at z; exact z
                  · exact .inl (List.mem_append_right _ hb)
              have P5 : Pres ro H ⟨ro4.ro, ro.hid⟩ (upd (ItX.dropH H4 it) p (.lst zs)) := by
                refine ⟨P4.pre, rfl, fun b o hb nb => ?_, fun b hb => ?_⟩
                · have n1 : b ≠ p := fun z => by rw [z, fr] at hb; cases hb
                  have n2 : b ≠ it := fun z => by rw [z] at hb; rw [upd_ne (Ne.symm hnp)] at hit; rw [hit] at hb; cases hb
                  rw [upd_ne n1, ItX.dropH_ne n2]
                  exact P4.keep b o (by rw [upd_ne n2, upd_ne n1]; exact hb) nb
                · rcases P4.new b hb with z | z
                  · exact .inl z
                  · refine .inr ?_
                    by_cases n1 : b = p
                    · rw [n1]; exact fr
                    · by_cases n2 : b = it
                      · rw [n2, upd_same] at z; cases z
                      · rw [upd_ne n2, upd_ne n1] at z; exact z
              have hhid : ro4.hid = it :: (p :: ro.hid) := P4.hid
              have R5 : RelS X.K X.mg ⟨ro4.ro, p :: ro.hid⟩ M1 (ItX.dropH H4 it) := R4.dropHid hhid fun hm => hro2 (List.mem_append_right _ hm)
              have R6 : RelS X.K X.mg ⟨ro4.ro, ro.hid⟩ M1 (upd (ItX.dropH H4 it) p (.lst zs)) := by
                have := RelS.unseen R5 (p := p) (o := .lst zs) (show p ∈ p :: ro.hid from List.mem_cons_self)
                exact RelS.shown (ro := ⟨ro4.ro, ro.hid⟩) (p := p) this
              have hpn : p ∉ (⟨ro4.ro, ro.hid⟩ : Pl).all := fun hm => by
                rcases List.mem_append.mp hm with hm | hm
                · rcases P4.new p hm with z | z
                  · exact hro (List.mem_append_left _ z)
                  · rw [upd_ne hnp, upd_same] at z; cases z
                · exact hro (List.mem_append_right _ hm)
              have hQ : Q (.ref p) (upd (ItX.dropH H4 it) p (.lst zs)) := q ⟨ro4.ro, ro.hid⟩ _ _ R6 P5 ⟨p, zs, rfl, upd_same, hpn, Reps.monoW PW4 _ _ rzs⟩
              have hsq : SqT X.K (ItX.dropH H4 it) l zs := by
                have h1 : SqT X.K (upd (ItX.dropH H4 it) p (.lst zs)) l zs := (PW4.st hST).sq
                rcases h1 with h | h
                · refine .inl ?_
                  have hlp : l ≠ p := fun z => by
                    rcases h with h | ⟨u, h⟩ <;> · rw [z, upd_same] at h; cases h
                  rcases h with h | ⟨u, h⟩
                  · exact .inl (by rw [upd_ne hlp] at h; exact h)
                  · exact .inr ⟨u, by rw [upd_ne hlp] at h; exact h⟩
                · exact .inr h
              have eu : upd (ItX.dropH H4 it) p (.lst (zs.take 0)) = ItX.dropH H4 it := by
                funext b
                by_cases hb : b = p
                · rw [hb, upd_same, hp5]; rfl
                · rw [upd_ne hb]
              have run : ∀ s6, Inv X pins σ (ItX.dropH H4 it) s6 → s6.heap.IsTupleIter it l 0 → codeAny (model X.prog X.w) X.A.in1 (.builtin "list.extend.loop" ⟨[.ref p, .ref it, .none], []⟩) (wants (fun r s₂ => r = .none ∧ EP X pins σ Q (.ref p) s₂) X.xe) s6 := fun s6 I6 h6 =>
                own_fill (A1 := X.A.in1) (H0 := ItX.dropH H4 it) (zs := zs) rfl (I6.ok.hd hcalm) hzl (fun s7 I7 => ⟨rfl, .ref p, _, I7, rfl, hQ⟩) zs.length 0 s6 (by omega) (Nat.zero_le _) (by rw [eu]; exact I6) (by rw [eu]; exact hsq) (by rw [eu]; exact F5) h6
              refine wpAny_ite_split (fun _ => ?_) (fun _ => wpAny_pure ⟨plainId_quiet PySem.F.plain_extend_loop _, run _ I5 hit5⟩)
              refine wpAny_bind (wpAny_rule ?_)
              refine wpAny_bind ?_
              show wpAny _ _ (updateSeq p (·.push .none) >>= fun _ => updateSeq p (·.pop)) _ _ _
              obtain ⟨z3, its3, k3, r3, hl3, e3⟩ := I5.lstM hp5
              cases r3
              refine wpAny_bind (wpAny_updateSeq e3 rfl ?_)
              have I7 := I5.lset (f := (·.push Value.none)) (its' := [Value.none]) (ys := [.non]) (t' := s4.toks + 1) hp5 e3 (by simp) (.cons rfl .nil) (by rw [List.length_singleton, sizeLine_eq]; decide)
              obtain ⟨z4, its4, k4, r4, hl4, e4⟩ := I7.lstM upd_same
              obtain ⟨u4, rfl, ru4⟩ := r4.one
              refine wpAny_updateSeq e4 rfl ?_ (by show 1 ≤ sizeLine; rw [sizeLine_eq]; decide) (by show 0 ≤ sizeLine + 1; exact Nat.zero_le _)
              have I8 := I7.lset (f := (·.pop)) (its := [u4]) (its' := []) (ys := []) (t' := s4.toks + 1) upd_same e4 (by rfl) .nil (Nat.zero_le _)
              rw [upd_upd, show upd (ItX.dropH H4 it) p (.lst []) = ItX.dropH H4 it from eu] at I8
              refine wpAny_pure ⟨plainId_quiet PySem.F.plain_extend_loop _, run _ I8 ?_⟩
              exact (hit5.at fun o e => (Heap.get?_update_other _ _ hnp).trans ((Heap.get?_update_other _ _ hnp).trans e))
            · exact x.elim
          · exact P.elim
        · exact P.elim
      · exact P.elim
    · exact P.elim
  · rcases listOF_dich (C := C) (f := f) (F := F) (ds := ds) (M := M) with ⟨d, M', e⟩ | e
    · rw [e] at P ⊢; exact P
    · rw [e] at P; exact P.elim
end
section
variable {X : Cx} {W : WX} {c fi : Addr} {fdI : FuncData} {psI : List Str} {n : Nat} {tg e : Expr} {m : ME}
/-- for x in o -/
def ownI (C f : String) (m : ME) : MI := fun sd M => (m sd M).bind fun d M1 => match d with
  | .obj C' ns vs => if C' = C then (match lookF ns vs f with
    | some (.tup es) => .ok ⟨es, fun _ => True⟩ M1
    | _ => .stuck) else .stuck
  | _ => .stuck
theorem di_own {C f : String} (hc : X.mg (Str.ofString C) = some (.ref c)) (hs : PySem.W.findIn X.K (.ref c) "__iter__" = some (some (.ref fi))) (hf : PySem.W.isFn X.K (.ref fi) = true)
    (FI : FnOkY X.prog X.w X.K X.mg X.base n fi fdI psI (spIt X.K c (Str.ofString f))) (bI : Binds X.K fdI psI []) (hr : Room n X.A) (h : DE X W e m) : DI X W tg e (ownI C f m) := by
  refine ⟨⟨fun pins s st H Q I q => (pi_own hs hf FI bI hr h.pe).run pins s st H Q I ?_⟩⟩
  obtain ⟨ro, sd, M, R, S, P⟩ := q
  refine ⟨ro, sd, M, R, S, (Post.bind P).imp fun x H1 ⟨ro1, M1, d, R1, P1, r1, q1⟩ => ?_⟩
  cases d with
  | obj C' ns vs =>
    dsimp only at q1
    split at q1
    · rename_i hC
      subst hC
      obtain ⟨a, c', dx, ws, rfl, hmg, hH, hna, hlen, rws⟩ := r1
      rw [hc] at hmg; cases hmg
      split at q1
      · rename_i es hlk
        obtain ⟨vl, hvl, rvl⟩ := lookF_some rws hlk
        obtain ⟨l, zs, e, hq, J⟩ := iterOk_tup rvl
        subst e
        exact ⟨a, dx, _, l, rfl, hH, hvl, ⟨zs, hq⟩, q1 ro1 H1 _ R1 (Pres.refl _ _) J⟩
      · exact q1.elim
    · exact q1.elim
  | _ => exact q1.elim
end
end DL

/-! printed by gen.py: the defs of the law over data -/
namespace Lk11
open PySem PySem.Spec L2 DL
open PyProof.Rows hiding St
def top (i : Nat) : Stmt := PySem.Challenge.pw_neededlaws_k11_texts_of_ways.main.body.getD i (.Pass ⟨0, 0, 0, 0⟩)
abbrev s_l_tree : Stmt := top 15
abbrev s_NoWayD_initD : Stmt := inClass (top 3) 0
abbrev s_expected : Stmt := top 7
abbrev s_end_of : Stmt := top 8
abbrev s_WayD_initD : Stmt := inClass (top 9) 0
abbrev s_l_draws : Stmt := top 12
abbrev s_l_text : Stmt := top 16
abbrev s_WayD_eqD : Stmt := inClass (top 9) 4
abbrev s_l_cell : Stmt := top 11
abbrev s_l_word : Stmt := top 14
abbrev s_WayD_strD : Stmt := inClass (top 9) 1
abbrev s_l_leaves : Stmt := top 17
abbrev s_WayD_lenD : Stmt := inClass (top 9) 2
abbrev s_WayD_iterD : Stmt := inClass (top 9) 3
abbrev s_l_is : Stmt := top 18
abbrev s_law : Stmt := top 19
abbrev csI : List String := ["Way"]
abbrev tblI : List (TN × TN × Bool) := [((.c "Way"), (.c "Way"), true), ((.b "str"), (.c "Way"), false), ((.b "list"), (.c "Way"), false)]
/-! ### mirrors -/
noncomputable def b_l_tree_1 : MST :=
  (seqS (setS 4 (binE modI (binE ixD (nameE 1) (nameE 3)) (binE subI (appE lenF (consA (nameE 2) nilA)) (constE (.int 1)))))
  (seqS (setS 5 (tupE (consA (binE ixD (nameE 2) (nameE 4)) (consA (binE ixD (nameE 2) (binE addD (nameE 4) (constE (.int 1)))) nilA))))
  (setS 2 (binE addD (binE addD (slE (nameE 2) noO (soO (nameE 4))) (lstE (consA (nameE 5) nilA))) (slE (nameE 2) (soO (binE addD (nameE 4) (constE (.int 2)))) noO)))))
noncomputable def m_l_tree : MST :=
  (seqS (setS 2 (appE listF (consA (nameE 0) nilA)))
  (seqS (forS (range1I (consA (binE subI (appE lenF (consA (nameE 0) nilA)) (constE (.int 1))) nilA)) (nameG 3) b_l_tree_1)
  (retS (binE ixD (nameE 2) (constE (.int 0))))))
noncomputable def F_l_tree : FM := runD 6 m_l_tree
noncomputable def m_expected : MST :=
  (ifS (orB (valB (binE (eqD false) (nameE 1) (appE lenF (consA (nameE 0) nilA)))) (valB (binE (eqD true) (binE ixD (nameE 0) (nameE 1)) (nameE 2)))) stuckS passS)
noncomputable def F_expected : FM := runD 3 m_expected
noncomputable def t_end_of_1 (G : FM) : MB :=
  (andB (valB (binE ltD (binE addD (nameE 1) (nameE 4)) (appE lenF (consA (nameE 0) nilA)))) (andB (valB (binE (inD false) (binE ixD (nameE 0) (binE addD (nameE 1) (nameE 4))) (constE (.str (sL "abcdefghijklmnopqrstuvwxyz"))))) (valB (binE ltD (nameE 4) (constE (.int 6))))))
noncomputable def b_end_of_1 (G : FM) : MST :=
  (augS 4 iaddX (constE (.int 1)))
noncomputable def m_end_of (G : FM) : MST :=
  (seqS (ifS (valB (binE (eqD false) (nameE 1) (appE lenF (consA (nameE 0) nilA)))) stuckS passS)
  (seqS (ifS (valB (binE (eqD false) (binE ixD (nameE 0) (nameE 1)) (constE (.str (sL "("))))) (seqS (setS 2 (callE 2 G (· ++ []) (consA (nameE 0) (consA (binE addD (nameE 1) (constE (.int 1))) nilA))))
  (seqS (exprS (callE 3 F_expected (· ++ []) (consA (nameE 0) (consA (nameE 2) (consA (constE (.str (sL " "))) nilA)))))
  (seqS (setS 3 (callE 2 G (· ++ []) (consA (nameE 0) (consA (binE addD (nameE 2) (constE (.int 1))) nilA))))
  (seqS (exprS (callE 3 F_expected (· ++ []) (consA (nameE 0) (consA (nameE 3) (consA (constE (.str (sL ")"))) nilA)))))
  (retS (binE addD (nameE 3) (constE (.int 1)))))))) passS)
  (seqS (setS 4 (constE (.int 0)))
  (seqS (whileS 1000 (t_end_of_1 G) (b_end_of_1 G))
  (seqS (ifS (valB (binE (eqD false) (nameE 4) (constE (.int 0)))) stuckS passS)
  (retS (binE addD (nameE 1) (nameE 4))))))))
noncomputable def R_end_of : Nat → FM
  | 0 => fun _ _ => .stuck
  | d + 1 => runD 5 (m_end_of (R_end_of d))
noncomputable def F_end_of : FM := R_end_of 30
noncomputable def m_WayD_initD (G : FM) : MST :=
  (seqS (setS 2 (callE 2 F_end_of (· ++ []) (consA (nameE 1) (consA (constE (.int 0)) nilA))))
  (seqS (ifS (valB (binE ltD (nameE 2) (appE lenF (consA (nameE 1) nilA)))) stuckS passS)
  (seqS (setFldS ["Way"] "text" (nameE 0) (nameE 1))
  (seqS (setFldS ["Way"] "name" (nameE 0) (constE (.str (sL ""))))
  (seqS (setFldS ["Way"] "left" (nameE 0) (constE .non))
  (seqS (setFldS ["Way"] "right" (nameE 0) (constE .non))
  (ifS (valB (binE (eqD false) (binE ixD (nameE 1) (constE (.int 0))) (constE (.str (sL "("))))) (seqS (setS 3 (callE 2 F_end_of (· ++ []) (consA (nameE 1) (consA (constE (.int 1)) nilA))))
  (seqS (setFldS ["Way"] "left" (nameE 0) (callE 1 (mkT "Way" G) (· ++ []) (consA (slE (nameE 1) (soO (constE (.int 1))) (soO (nameE 3))) nilA)))
  (seqS (setFldS ["Way"] "right" (nameE 0) (callE 1 (mkT "Way" G) (· ++ []) (consA (slE (nameE 1) (soO (binE addD (nameE 3) (constE (.int 1)))) (soO (unE negI (constE (.int 1))))) nilA)))
  (setFldS ["Way"] "leaves" (nameE 0) (binE addD (unE (fldD ["Way"] "leaves") (unE (fldD ["Way"] "left") (nameE 0))) (unE (fldD ["Way"] "leaves") (unE (fldD ["Way"] "right") (nameE 0)))))))) (seqS (setFldS ["Way"] "name" (nameE 0) (nameE 1))
  (setFldS ["Way"] "leaves" (nameE 0) (tupE (consA (nameE 1) nilA)))))))))))
noncomputable def R_WayD_initD : Nat → FM
  | 0 => fun _ _ => .stuck
  | d + 1 => runD 4 (m_WayD_initD (R_WayD_initD d))
noncomputable def F_WayD_initD : FM := R_WayD_initD 30
noncomputable def b_l_draws_1 : MST :=
  (ifS (valB (binE geD (appE absF (consA (nameE 0) nilA)) (binE powI (constE (.int 10)) (constE (.int 18))))) (seqS (exprS (bmE "list" appendF (nameE 2) (consA (binE modI (appE intF (consA (nameE 3) nilA)) (binE ixD (nameE 1) (nameE 4))) nilA)))
  (setS 3 (binE fdivI (nameE 3) (binE ixD (nameE 1) (nameE 4))))) (seqS (setS 5 (binE modI (appE intF (consA (binE mulD (binE addD (binE addD (nameE 3) (binE mulD (constE (.int 11)) (nameE 4))) (constE (.int 3))) (constE (.int 48271))) nilA)) (constE (.int 2147483647))))
  (seqS (setS 5 (binE modI (appE intF (consA (binE addD (binE addD (binE mulD (binE mulD (nameE 5) (nameE 5)) (constE (.int 16807))) (binE mulD (constE (.int 97)) (nameE 4))) (nameE 5)) nilA)) (constE (.int 2147483629))))
  (exprS (bmE "list" appendF (nameE 2) (consA (binE modI (binE fdivI (nameE 5) (constE (.int 5))) (binE ixD (nameE 1) (nameE 4))) nilA))))))
noncomputable def m_l_draws : MST :=
  (seqS (setS 2 (celE nilA))
  (seqS (setS 3 (appE absF (consA (nameE 0) nilA)))
  (seqS (forS (range1I (consA (appE lenF (consA (nameE 1) nilA)) nilA)) (nameG 4) b_l_draws_1)
  (retS (nameE 2)))))
noncomputable def F_l_draws : FM := runD 6 m_l_draws
noncomputable def m_l_text (G : FM) : MST :=
  (seqS (ifS (truB (appE (isiF csI (tblL tblI)) (consA (nameE 0) (consA (constE (.ty "str")) nilA)))) (retS (nameE 0)) passS)
  (retS (binE addD (binE addD (binE addD (binE addD (constE (.str (sL "("))) (callE 1 G (· ++ []) (consA (binE ixD (nameE 0) (constE (.int 0))) nilA))) (constE (.str (sL " ")))) (callE 1 G (· ++ []) (consA (binE ixD (nameE 0) (constE (.int 1))) nilA))) (constE (.str (sL ")"))))))
noncomputable def R_l_text : Nat → FM
  | 0 => fun _ _ => .stuck
  | d + 1 => runD 1 (m_l_text (R_l_text d))
noncomputable def F_l_text : FM := R_l_text 30
noncomputable def m_WayD_eqD : MST :=
  (retS (andE (appE (isiF csI (tblL tblI)) (consA (nameE 1) (consA (constE (.glo "Way")) nilA))) (binE (eqD false) (unE (fldD ["Way"] "text") (nameE 0)) (unE (fldD ["Way"] "text") (nameE 1)))))
noncomputable def F_WayD_eqD : FM := runD 2 m_WayD_eqD
noncomputable def m_l_cell : MST :=
  (seqS (ifS (valB (binE ltD (nameE 1) (appE lenF (consA (nameE 0) nilA)))) (retS (binE ixD (nameE 0) (nameE 1))) passS)
  (retS (constE (.int 0))))
noncomputable def F_l_cell : FM := runD 2 m_l_cell
noncomputable def e_l_word_1 : ME :=
  (binE ixD (constE (.str (sL "abcdefghijklmnopqrstuvwxyz"))) (nameE 2))
noncomputable def m_l_word : MST :=
  (seqS (setS 1 (lstE (consA (constE (.str (sL "a"))) (consA (constE (.str (sL "b"))) (consA (constE (.str (sL "c"))) (consA (constE (.str (sL "e"))) (consA (constE (.str (sL "z"))) (consA (constE (.str (sL "ab"))) (consA (constE (.str (sL "ee"))) (consA (constE (.str (sL "zz"))) (consA (constE (.str (sL "ez"))) (consA (constE (.str (sL "abcdef"))) nilA))))))))))))
  (seqS (ifS (valB (binE ltD (binE ixD (nameE 0) (constE (.int 0))) (appE lenF (consA (nameE 1) nilA)))) (retS (binE ixD (nameE 1) (binE ixD (nameE 0) (constE (.int 0))))) passS)
  (retS (bmE "str" joinF (constE (.str (sL ""))) (consA (lcE (anyI (slE (nameE 0) (soO (constE (.int 2))) (soO (binE addD (constE (.int 3)) (binE ixD (nameE 0) (constE (.int 1))))))) (nameG 2) yesB e_l_word_1 [2]) nilA)))))
noncomputable def F_l_word : FM := runD 3 m_l_word
noncomputable def m_WayD_strD : MST :=
  (retS (appE strSF (consA (unE (fldD ["Way"] "text") (nameE 0)) nilA)))
noncomputable def F_WayD_strD : FM := runD 1 m_WayD_strD
noncomputable def m_l_leaves (G : FM) : MST :=
  (seqS (ifS (truB (appE (isiF csI (tblL tblI)) (consA (nameE 0) (consA (constE (.ty "str")) nilA)))) (retS (lstE (consA (nameE 0) nilA))) passS)
  (retS (binE addD (callE 1 G (· ++ []) (consA (binE ixD (nameE 0) (constE (.int 0))) nilA)) (callE 1 G (· ++ []) (consA (binE ixD (nameE 0) (constE (.int 1))) nilA)))))
noncomputable def R_l_leaves : Nat → FM
  | 0 => fun _ _ => .stuck
  | d + 1 => runD 1 (m_l_leaves (R_l_leaves d))
noncomputable def F_l_leaves : FM := R_l_leaves 30
noncomputable def m_WayD_lenD : MST :=
  (retS (appE lenF (consA (unE (fldD ["Way"] "leaves") (nameE 0)) nilA)))
noncomputable def F_WayD_lenD : FM := runD 1 m_WayD_lenD
noncomputable def m_l_is (G : FM) : MST :=
  (seqS (ifS (orB (notB (truB (appE (isiF csI (tblL tblI)) (consA (nameE 0) (consA (constE (.glo "Way")) nilA))))) (orB (valB (binE (eqD true) (appE (call1O "Way" F_WayD_strD isStrD) (consA (nameE 0) nilA)) (callE 1 F_l_text (· ++ []) (consA (nameE 1) nilA)))) (notB (truB (appE (isiF csI (tblL tblI)) (consA (unE (fldD ["Way"] "leaves") (nameE 0)) (consA (constE (.ty "tuple")) nilA))))))) (retS (constE (.bl false))) passS)
  (seqS (ifS (orB (valB (binE (eqD true) (appE listF (consA (unE (fldD ["Way"] "leaves") (nameE 0)) nilA)) (callE 1 F_l_leaves (· ++ []) (consA (nameE 1) nilA)))) (valB (binE (eqD true) (lcE (ownI "Way" "leaves" (nameE 0)) (nameG 2) yesB (nameE 2) [2]) (callE 1 F_l_leaves (· ++ []) (consA (nameE 1) nilA))))) (retS (constE (.bl false))) passS)
  (seqS (ifS (orB (valB (binE (eqD true) (appE (call1O "Way" F_WayD_lenD isLen) (consA (nameE 0) nilA)) (appE lenF (consA (callE 1 F_l_leaves (· ++ []) (consA (nameE 1) nilA)) nilA)))) (notB (valB (binE (eqO "Way" (okE "Way" ["str", "list"]) F_WayD_eqD) (nameE 0) (callE 1 (mkT "Way" F_WayD_initD) (· ++ []) (consA (callE 1 F_l_text (· ++ []) (consA (nameE 1) nilA)) nilA)))))) (retS (constE (.bl false))) passS)
  (seqS (ifS (truB (appE (isiF csI (tblL tblI)) (consA (nameE 1) (consA (constE (.ty "str")) nilA)))) (retS (andE (binE (eqD false) (unE (fldD ["Way"] "name") (nameE 0)) (nameE 1)) (andE (binE isNF (unE (fldD ["Way"] "left") (nameE 0)) (constE .non)) (binE isNF (unE (fldD ["Way"] "right") (nameE 0)) (constE .non))))) passS)
  (retS (andE (binE (eqD false) (unE (fldD ["Way"] "name") (nameE 0)) (constE (.str (sL "")))) (andE (callE 2 G (· ++ []) (consA (unE (fldD ["Way"] "left") (nameE 0)) (consA (binE ixD (nameE 1) (constE (.int 0))) nilA))) (callE 2 G (· ++ []) (consA (unE (fldD ["Way"] "right") (nameE 0)) (consA (binE ixD (nameE 1) (constE (.int 1))) nilA))))))))))
noncomputable def R_l_is : Nat → FM
  | 0 => fun _ _ => .stuck
  | d + 1 => runD 3 (m_l_is (R_l_is d))
noncomputable def F_l_is : FM := R_l_is 30
noncomputable def b_law_1 : MST :=
  (seqS (setS 4 (callE 2 F_l_draws (· ++ []) (consA (callE 2 F_l_cell (· ++ []) (consA (nameE 0) (consA (binE addD (constE (.int 2)) (nameE 3)) nilA))) (consA (binE addD (lstE (consA (constE (.int 14)) (consA (constE (.int 6)) nilA))) (binE mulD (lstE (consA (constE (.int 26)) nilA)) (constE (.int 6)))) nilA))))
  (exprS (bmE "list" appendF (nameE 2) (consA (callE 1 F_l_word (· ++ []) (consA (nameE 4) nilA)) nilA))))
noncomputable def m_law : MST :=
  (seqS (setS 1 (binE addD (constE (.int 1)) (binE ixD (callE 2 F_l_draws (· ++ []) (consA (callE 2 F_l_cell (· ++ []) (consA (nameE 0) (consA (constE (.int 0)) nilA))) (consA (lstE (consA (constE (.int 20)) nilA)) nilA))) (constE (.int 0)))))
  (seqS (setS 2 (celE nilA))
  (seqS (forS (range1I (consA (nameE 1) nilA)) (nameG 3) b_law_1)
  (seqS (setS 5 (callE 2 F_l_tree (· ++ []) (consA (nameE 2) (consA (callE 2 F_l_draws (· ++ []) (consA (callE 2 F_l_cell (· ++ []) (consA (nameE 0) (consA (constE (.int 1)) nilA))) (consA (binE mulD (lstE (consA (constE (.int 997)) nilA)) (constE (.int 19))) nilA))) nilA))))
  (seqS (setS 6 (callE 1 (mkT "Way" F_WayD_initD) (· ++ []) (consA (callE 1 F_l_text (· ++ []) (consA (nameE 5) nilA)) nilA)))
  (seqS (ifS (orB (notB (truB (callE 2 F_l_is (· ++ []) (consA (nameE 6) (consA (nameE 5) nilA))))) (notB (truB (callE 2 F_l_is (· ++ []) (consA (callE 1 (mkT "Way" F_WayD_initD) (· ++ []) (consA (appE (call1O "Way" F_WayD_strD isStrD) (consA (nameE 6) nilA)) nilA)) (consA (nameE 5) nilA)))))) (retS (constE (.bl false))) passS)
  (retS (andE (appE (isiF csI (tblL tblI)) (consA (appE (call1O "Way" F_WayD_strD isStrD) (consA (nameE 6) nilA)) (consA (constE (.ty "str")) nilA))) (andE (binE (neO "Way" (okE "Way" ["str", "list"]) F_WayD_eqD) (nameE 6) (callE 1 F_l_text (· ++ []) (consA (nameE 5) nilA))) (notE (binE (eqO "Way" (okE "Way" ["str", "list"]) F_WayD_eqD) (nameE 6) (appE listF (consA (unE (fldD ["Way"] "leaves") (nameE 6)) nilA)))))))))))))
noncomputable def F_law : FM := runD 7 m_law
/-! ### where things stand, and what is asked of them -/
structure Ad where
  f_l_tree : Addr
  d_l_tree : FuncData
  f_NoWayD_initD : Addr
  d_NoWayD_initD : FuncData
  f_expected : Addr
  d_expected : FuncData
  f_end_of : Addr
  d_end_of : FuncData
  f_WayD_initD : Addr
  d_WayD_initD : FuncData
  f_l_draws : Addr
  d_l_draws : FuncData
  f_l_text : Addr
  d_l_text : FuncData
  f_WayD_eqD : Addr
  d_WayD_eqD : FuncData
  f_l_cell : Addr
  d_l_cell : FuncData
  f_l_word : Addr
  d_l_word : FuncData
  f_WayD_strD : Addr
  d_WayD_strD : FuncData
  f_l_leaves : Addr
  d_l_leaves : FuncData
  f_WayD_lenD : Addr
  d_WayD_lenD : FuncData
  f_WayD_iterD : Addr
  d_WayD_iterD : FuncData
  f_l_is : Addr
  d_l_is : FuncData
  f_law : Addr
  d_law : FuncData
  c_NoWay : Addr
  c_Way : Addr
  c_WayError : Addr
structure Fx (K : PySem.W.Frag) (mg : Str → Option Value) (A : Ad) : Prop where
  n_abs : mg "abs" = none
  n_int : mg "int" = none
  n_isinstance : mg "isinstance" = none
  n_iter : mg "iter" = none
  n_len : mg "len" = none
  n_list : mg "list" = none
  n_range : mg "range" = none
  n_str : mg "str" = none
  n_tuple : mg "tuple" = none
  s_LETTERS : ∃ t, mg "LETTERS" = some (.str (Str.ofString "abcdefghijklmnopqrstuvwxyz") t)
  s_LONGEST_NAME : ∃ t, mg "LONGEST_NAME" = some (.int 6 t)
  F_l_tree : FnP K "_law_tree" "_law_tree" s_l_tree [] [] A.f_l_tree A.d_l_tree
  g_l_tree : mg "_law_tree" = some (.ref A.f_l_tree)
  F_NoWayD_initD : FnP K "__init__" "NoWay.__init__" s_NoWayD_initD [] [] A.f_NoWayD_initD A.d_NoWayD_initD
  F_expected : FnP K "expected" "expected" s_expected [] [] A.f_expected A.d_expected
  g_expected : mg "expected" = some (.ref A.f_expected)
  F_end_of : FnP K "end_of" "end_of" s_end_of [] [] A.f_end_of A.d_end_of
  g_end_of : mg "end_of" = some (.ref A.f_end_of)
  F_WayD_initD : FnP K "__init__" "Way.__init__" s_WayD_initD [] [] A.f_WayD_initD A.d_WayD_initD
  F_l_draws : FnP K "_law_draws" "_law_draws" s_l_draws [] [] A.f_l_draws A.d_l_draws
  g_l_draws : mg "_law_draws" = some (.ref A.f_l_draws)
  F_l_text : FnP K "_law_text" "_law_text" s_l_text [] [] A.f_l_text A.d_l_text
  g_l_text : mg "_law_text" = some (.ref A.f_l_text)
  F_WayD_eqD : FnP K "__eq__" "Way.__eq__" s_WayD_eqD [] [] A.f_WayD_eqD A.d_WayD_eqD
  F_l_cell : FnP K "_law_cell" "_law_cell" s_l_cell [] [] A.f_l_cell A.d_l_cell
  g_l_cell : mg "_law_cell" = some (.ref A.f_l_cell)
  F_l_word : FnP K "_law_word" "_law_word" s_l_word [] [] A.f_l_word A.d_l_word
  g_l_word : mg "_law_word" = some (.ref A.f_l_word)
  F_WayD_strD : FnP K "__str__" "Way.__str__" s_WayD_strD [] [] A.f_WayD_strD A.d_WayD_strD
  F_l_leaves : FnP K "_law_leaves" "_law_leaves" s_l_leaves [] [] A.f_l_leaves A.d_l_leaves
  g_l_leaves : mg "_law_leaves" = some (.ref A.f_l_leaves)
  F_WayD_lenD : FnP K "__len__" "Way.__len__" s_WayD_lenD [] [] A.f_WayD_lenD A.d_WayD_lenD
  F_WayD_iterD : FnP K "__iter__" "Way.__iter__" s_WayD_iterD [] [] A.f_WayD_iterD A.d_WayD_iterD
  F_l_is : FnP K "_law_is" "_law_is" s_l_is [] [] A.f_l_is A.d_l_is
  g_l_is : mg "_law_is" = some (.ref A.f_l_is)
  F_law : FnP K "law" "law" s_law [] [] A.f_law A.d_law
  g_law : mg "law" = some (.ref A.f_law)
  b_WayD_initD_2 : DflK K mg A.d_WayD_initD ["self", "text"] []
  b_l_cell_2 : DflK K mg A.d_l_cell ["_law_script", "_law_k"] []
  b_l_draws_2 : DflK K mg A.d_l_draws ["_law_cell_here", "_law_sizes"] []
  b_l_is_2 : DflK K mg A.d_l_is ["_law_way", "_law_tree_here"] []
  b_l_leaves_1 : DflK K mg A.d_l_leaves ["_law_tree_here"] []
  b_l_text_1 : DflK K mg A.d_l_text ["_law_tree_here"] []
  b_l_tree_2 : DflK K mg A.d_l_tree ["_law_leaves_here", "_law_picks"] []
  b_l_word_1 : DflK K mg A.d_l_word ["_law_drawn"] []
  b_end_of_2 : DflK K mg A.d_end_of ["text", "at"] []
  b_expected_3 : DflK K mg A.d_expected ["text", "at", "sign"] []
  bd_NoWayD_initD : Binds K A.d_NoWayD_initD ["self", "at"] []
  bd_WayD_eqD : Binds K A.d_WayD_eqD ["self", "other"] []
  bd_WayD_iterD : Binds K A.d_WayD_iterD ["self"] []
  bd_WayD_lenD : Binds K A.d_WayD_lenD ["self"] []
  bd_WayD_strD : Binds K A.d_WayD_strD ["self"] []
  g_NoWay : mg "NoWay" = some (.ref A.c_NoWay)
  g_Way : mg "Way" = some (.ref A.c_Way)
  g_WayError : mg "WayError" = some (.ref A.c_WayError)
  ci_Way : CInfo K mg "Way" A.c_Way ["leaves", "left", "name", "right", "text"]
  mk_Way : Mk K A.c_Way A.f_WayD_initD
  m_WayD_eqD : Meth K A.c_Way "__eq__" A.f_WayD_eqD
  m_WayD_iterD : Meth K A.c_Way "__iter__" A.f_WayD_iterD
  m_WayD_lenD : Meth K A.c_Way "__len__" A.f_WayD_lenD
  m_WayD_strD : Meth K A.c_Way "__str__" A.f_WayD_strD
  er_Way : EqRight K mg "Way" A.c_Way (okE "Way" ["str", "list"])
  ne_Way : PySem.W.findIn K (.ref A.c_Way) "__ne__" = some (some (.builtin "object.__ne__"))
  mo_Way : PySem.W.mroIn K A.c_Way (.type "object") = some true
  fs_Way__leaves : ∀ C, C ∈ ["Way"] → ∃ c fs, CInfo K mg C c fs ∧ "leaves" ∈ fs
  fs_Way__left : ∀ C, C ∈ ["Way"] → ∃ c fs, CInfo K mg C c fs ∧ "left" ∈ fs
  fs_Way__name : ∀ C, C ∈ ["Way"] → ∃ c fs, CInfo K mg C c fs ∧ "name" ∈ fs
  fs_Way__right : ∀ C, C ∈ ["Way"] → ∃ c fs, CInfo K mg C c fs ∧ "right" ∈ fs
  fs_Way__text : ∀ C, C ∈ ["Way"] → ∃ c fs, CInfo K mg C c fs ∧ "text" ∈ fs
  bx_WayError : BaseX K A.c_WayError
  ex_NoWay : ExC K mg "NoWay" A.c_NoWay A.f_NoWayD_initD ["at"]
  tb_isi : TblOk K mg (tblL tblI)
  ic_isi : ∀ C c, C ∈ csI → mg (Str.ofString C) = some (.ref c) → IsC K c
/-! ### each def keeps its mirror -/
section
variable {P : Program} {w : World} {K : PySem.W.Frag} {mg : Str → Option Value} {base : Heap} {A : Ad}
theorem sc_l_tree : FnScope ["_law_leaves_here", "_law_picks", "_law_parts", "_law_at", "_law_place", "_law_pair"] ["_law_leaves_here", "_law_picks"] (defScope s_l_tree) := ⟨rfl, rfl, rfl, by decide +kernel, rfl, by decide +kernel, by decide +kernel⟩
theorem ok_l_tree (T : Fx K mg A) : DOk P w K mg base 1 A.f_l_tree A.d_l_tree ["_law_leaves_here", "_law_picks"] F_l_tree := by
  have S := sc_l_tree
  refine funD_ok (st := s_l_tree) (N := ["_law_leaves_here", "_law_picks", "_law_parts", "_law_at", "_law_place", "_law_pair"]) (ps := ["_law_leaves_here", "_law_picks"]) (k := 0) (body := m_l_tree) T.F_l_tree S ?_
  intro cdv B outer s H E hr cx
  exact (dss_cons (ds_set (i := 2) (de_callTy callS_list rfl T.n_list boot_list (da_cons (de_name 0) da_nil)) S.nd)
    (dss_cons (ds_for cx (di_range1 rfl T.n_range (da_cons (de_op opS_sub (de_callB callS_len rfl T.n_len boot_len (da_cons (de_name 0) da_nil)) de_int) da_nil)) (dg_name S.nd) (dss_cons (ds_set (i := 4) (de_op opS_mod (de_ix ixS_any (de_name 1) (de_name 3)) (de_op opS_sub (de_callB callS_len rfl T.n_len boot_len (da_cons (de_name 2) da_nil)) de_int)) S.nd)
    (dss_cons (ds_set (i := 5) (de_tup (da_cons (de_ix ixS_any (de_name 2) (de_name 4)) (da_cons (de_ix ixS_any (de_name 2) (de_op opS_add (de_name 4) de_int)) da_nil))) S.nd)
    (dss_one (ds_set (i := 2) (de_op opS_add (de_op opS_add (de_sl (de_name 2) do_none (do_some (de_name 4))) (de_lst (da_cons (de_name 5) da_nil))) (de_sl (de_name 2) (do_some (de_op opS_add (de_name 4) de_int)) do_none)) S.nd)))))
    (dss_one (ds_ret (de_ix ixS_any (de_name 2) de_int)))))
theorem sc_NoWayD_initD : FnScope ["self", "at"] ["self", "at"] (defScope s_NoWayD_initD) := ⟨rfl, rfl, rfl, by decide +kernel, rfl, by decide +kernel, by decide +kernel⟩
theorem ok_NoWayD_initD (T : Fx K mg A) : FnOk P w K mg base (L2.CX P w) 1 A.f_NoWayD_initD A.d_NoWayD_initD ["self", "at"] (spI1 K A.c_NoWay (Str.ofString "at")) := init1_ok T.F_NoWayD_initD sc_NoWayD_initD T.g_WayError T.bx_WayError
theorem sc_expected : FnScope ["text", "at", "sign"] ["text", "at", "sign"] (defScope s_expected) := ⟨rfl, rfl, rfl, by decide +kernel, rfl, by decide +kernel, by decide +kernel⟩
theorem ok_expected (T : Fx K mg A) : DOk P w K mg base 1 A.f_expected A.d_expected ["text", "at", "sign"] F_expected := by
  have S := sc_expected
  refine funD_ok (st := s_expected) (N := ["text", "at", "sign"]) (ps := ["text", "at", "sign"]) (k := 0) (body := m_expected) T.F_expected S ?_
  intro cdv B outer s H E hr cx
  exact (dss_one (ds_if (DW.dt (dw_or (dt_cmp (opS_eq hr.units) (de_name 1) (de_callB callS_len rfl T.n_len boot_len (da_cons (de_name 0) da_nil))) (dw_or1 (dt_cmp (opS_ne hr.units) (de_ix ixS_any (de_name 0) (de_name 1)) (de_name 2))))) (dss_one ds_never) dss_nil))
theorem sc_end_of : FnScope ["text", "at", "middle", "last", "many"] ["text", "at"] (defScope s_end_of) := ⟨rfl, rfl, rfl, by decide +kernel, rfl, by decide +kernel, by decide +kernel⟩
theorem ok_end_of_r (T : Fx K mg A) : ∀ d : Nat, DOk P w K mg base (1 + 1 * d) A.f_end_of A.d_end_of ["text", "at"] (R_end_of d)
  | 0 => dok_stuck
  | d + 1 => by
    have ih : DOk P w K mg base (1 + 1 * d) A.f_end_of A.d_end_of ["text", "at"] (R_end_of d) := ok_end_of_r T d
    have S := sc_end_of
    refine FnOk.mono (j := 1 + 1 * d + 0 + 1) (funD_ok (st := s_end_of) (N := ["text", "at", "middle", "last", "many"]) (ps := ["text", "at"]) (k := 1 + 1 * d + 0) (body := m_end_of (R_end_of d)) T.F_end_of S ?_) (by omega)
    intro cdv B outer s H E hr cx
    exact (dss_cons (ds_if (dt_cmp (opS_eq hr.units) (de_name 1) (de_callB callS_len rfl T.n_len boot_len (da_cons (de_name 0) da_nil))) (dss_one ds_never) dss_nil)
      (dss_cons (ds_if (dt_cmp (opS_eq hr.units) (de_ix ixS_any (de_name 0) (de_name 1)) (de_str (s := "("))) (dss_cons (ds_set (i := 2) (de_call (x := "end_of") (ps := ["text", "at"]) (ih) (hr.mono (by omega)) cx.tk rfl T.g_end_of T.F_end_of.kp ⟨T.b_end_of_2⟩ (da_cons (de_name 0) (da_cons (de_op opS_add (de_name 1) de_int) da_nil))) S.nd)
      (dss_cons (ds_expr (de_call (x := "expected") (ps := ["text", "at", "sign"]) (ok_expected T) (hr.mono (by omega)) cx.tk rfl T.g_expected T.F_expected.kp ⟨T.b_expected_3⟩ (da_cons (de_name 0) (da_cons (de_name 2) (da_cons (de_str (s := " ")) da_nil)))))
      (dss_cons (ds_set (i := 3) (de_call (x := "end_of") (ps := ["text", "at"]) (ih) (hr.mono (by omega)) cx.tk rfl T.g_end_of T.F_end_of.kp ⟨T.b_end_of_2⟩ (da_cons (de_name 0) (da_cons (de_op opS_add (de_name 2) de_int) da_nil))) S.nd)
      (dss_cons (ds_expr (de_call (x := "expected") (ps := ["text", "at", "sign"]) (ok_expected T) (hr.mono (by omega)) cx.tk rfl T.g_expected T.F_expected.kp ⟨T.b_expected_3⟩ (da_cons (de_name 0) (da_cons (de_name 3) (da_cons (de_str (s := ")")) da_nil)))))
      (dss_one (ds_ret (de_op opS_add (de_name 3) de_int))))))) dss_nil)
      (dss_cons (ds_set (i := 4) de_int S.nd)
      (dss_cons (ds_while (n := 1000) cx (DW.dt (dw_and (dt_cmp opS_lt (de_op opS_add (de_name 1) (de_name 4)) (de_callB callS_len rfl T.n_len boot_len (da_cons (de_name 0) da_nil))) (dw_and (dt_cmp (opS_in (room65 hr)) (de_ix ixS_any (de_name 0) (de_op opS_add (de_name 1) (de_name 4))) (de_gstr' T.s_LETTERS rfl)) (dw_and1 (dt_cmp opS_lt (de_name 4) (de_gint' T.s_LONGEST_NAME rfl)))))) (dss_one (ds_aug (i := 4) iopS_addX de_int S.nd)))
      (dss_cons (ds_if (dt_cmp (opS_eq hr.units) (de_name 4) de_int) (dss_one ds_never) dss_nil)
      (dss_one (ds_ret (de_op opS_add (de_name 1) (de_name 4)))))))))
theorem ok_end_of (T : Fx K mg A) : DOk P w K mg base 31 A.f_end_of A.d_end_of ["text", "at"] F_end_of := ok_end_of_r T 30
theorem sc_WayD_initD : FnScope ["self", "text", "end", "middle"] ["self", "text"] (defScope s_WayD_initD) := ⟨rfl, rfl, rfl, by decide +kernel, rfl, by decide +kernel, by decide +kernel⟩
theorem ok_WayD_initD_r (T : Fx K mg A) : ∀ d : Nat, DOk P w K mg base (31 + 2 * d) A.f_WayD_initD A.d_WayD_initD ["self", "text"] (R_WayD_initD d)
  | 0 => dok_stuck
  | d + 1 => by
    have ih : DOk P w K mg base (31 + 2 * d) A.f_WayD_initD A.d_WayD_initD ["self", "text"] (R_WayD_initD d) := ok_WayD_initD_r T d
    have S := sc_WayD_initD
    refine FnOk.mono (j := 31 + 2 * d + 1 + 1) (funD_ok (st := s_WayD_initD) (N := ["self", "text", "end", "middle"]) (ps := ["self", "text"]) (k := 31 + 2 * d + 1) (body := m_WayD_initD (R_WayD_initD d)) T.F_WayD_initD S ?_) (by omega)
    intro cdv B outer s H E hr cx
    exact (dss_cons (ds_set (i := 2) (de_call (x := "end_of") (ps := ["text", "at"]) (ok_end_of T) (hr.mono (by omega)) cx.tk rfl T.g_end_of T.F_end_of.kp ⟨T.b_end_of_2⟩ (da_cons (de_name 1) (da_cons de_int da_nil))) S.nd)
      (dss_cons (ds_if (dt_cmp opS_lt (de_name 2) (de_callB callS_len rfl T.n_len boot_len (da_cons (de_name 1) da_nil))) (dss_one ds_never) dss_nil)
      (dss_cons (ds_fld (cs := ["Way"]) (f := "text") T.fs_Way__text (de_name 0) (de_name 1) rfl)
      (dss_cons (ds_fld (cs := ["Way"]) (f := "name") T.fs_Way__name (de_name 0) (de_str (s := "")) rfl)
      (dss_cons (ds_fld (cs := ["Way"]) (f := "left") T.fs_Way__left (de_name 0) de_non rfl)
      (dss_cons (ds_fld (cs := ["Way"]) (f := "right") T.fs_Way__right (de_name 0) de_non rfl)
      (dss_one (ds_if (dt_cmp (opS_eq hr.units) (de_ix ixS_any (de_name 1) de_int) (de_str (s := "("))) (dss_cons (ds_set (i := 3) (de_call (x := "end_of") (ps := ["text", "at"]) (ok_end_of T) (hr.mono (by omega)) cx.tk rfl T.g_end_of T.F_end_of.kp ⟨T.b_end_of_2⟩ (da_cons (de_name 1) (da_cons de_int da_nil))) S.nd)
      (dss_cons (ds_fld (cs := ["Way"]) (f := "left") T.fs_Way__left (de_name 0) (de_mk (C := "Way") (ps := ["self", "text"]) mkAs_T T.ci_Way T.mk_Way (ih) (hr.mono (by omega)) cx.tk rfl ⟨T.b_WayD_initD_2⟩ (da_cons (de_sl (de_name 1) (do_some de_int) (do_some (de_name 3))) da_nil)) rfl)
      (dss_cons (ds_fld (cs := ["Way"]) (f := "right") T.fs_Way__right (de_name 0) (de_mk (C := "Way") (ps := ["self", "text"]) mkAs_T T.ci_Way T.mk_Way (ih) (hr.mono (by omega)) cx.tk rfl ⟨T.b_WayD_initD_2⟩ (da_cons (de_sl (de_name 1) (do_some (de_op opS_add (de_name 3) de_int)) (do_some (de_un unS_neg de_int))) da_nil)) rfl)
      (dss_one (ds_fld (cs := ["Way"]) (f := "leaves") T.fs_Way__leaves (de_name 0) (de_op opS_add (de_fld (cs := ["Way"]) (f := "leaves") (T.fs_Way__leaves) (de_fld (cs := ["Way"]) (f := "left") (T.fs_Way__left) (de_name 0))) (de_fld (cs := ["Way"]) (f := "leaves") (T.fs_Way__leaves) (de_fld (cs := ["Way"]) (f := "right") (T.fs_Way__right) (de_name 0)))) rfl))))) (dss_cons (ds_fld (cs := ["Way"]) (f := "name") T.fs_Way__name (de_name 0) (de_name 1) rfl)
      (dss_one (ds_fld (cs := ["Way"]) (f := "leaves") T.fs_Way__leaves (de_name 0) (de_tup (da_cons (de_name 1) da_nil)) rfl)))))))))))
theorem ok_WayD_initD (T : Fx K mg A) : DOk P w K mg base 91 A.f_WayD_initD A.d_WayD_initD ["self", "text"] F_WayD_initD := ok_WayD_initD_r T 30
theorem sc_l_draws : FnScope ["_law_cell_here", "_law_sizes", "_law_drawn", "_law_left", "_law_at", "_law_mixed"] ["_law_cell_here", "_law_sizes"] (defScope s_l_draws) := ⟨rfl, rfl, rfl, by decide +kernel, rfl, by decide +kernel, by decide +kernel⟩
theorem ok_l_draws (T : Fx K mg A) : DOk P w K mg base 1 A.f_l_draws A.d_l_draws ["_law_cell_here", "_law_sizes"] F_l_draws := by
  have S := sc_l_draws
  refine funD_ok (st := s_l_draws) (N := ["_law_cell_here", "_law_sizes", "_law_drawn", "_law_left", "_law_at", "_law_mixed"]) (ps := ["_law_cell_here", "_law_sizes"]) (k := 0) (body := m_l_draws) T.F_l_draws S ?_
  intro cdv B outer s H E hr cx
  exact (dss_cons (ds_set (i := 2) (de_cel da_nil) S.nd)
    (dss_cons (ds_set (i := 3) (de_callB callS_abs rfl T.n_abs boot_abs (da_cons (de_name 0) da_nil)) S.nd)
    (dss_cons (ds_for cx (di_range1 rfl T.n_range (da_cons (de_callB callS_len rfl T.n_len boot_len (da_cons (de_name 1) da_nil)) da_nil)) (dg_name S.nd) (dss_one (ds_if (dt_cmp opS_ge (de_callB callS_abs rfl T.n_abs boot_abs (da_cons (de_name 0) da_nil)) (de_op opS_pow de_int de_int)) (dss_cons (ds_expr (de_bm mtS_append F.plainAttrs_list F.slot_list_append F.type_list_append (de_name 2) (da_cons (de_op opS_mod (de_callTy callS_int rfl T.n_int boot_int (da_cons (de_name 3) da_nil)) (de_ix ixS_any (de_name 1) (de_name 4))) da_nil)))
    (dss_one (ds_set (i := 3) (de_op opS_fdiv (de_name 3) (de_ix ixS_any (de_name 1) (de_name 4))) S.nd))) (dss_cons (ds_set (i := 5) (de_op opS_mod (de_callTy callS_int rfl T.n_int boot_int (da_cons (de_op opS_mul (de_op opS_add (de_op opS_add (de_name 3) (de_op opS_mul de_int (de_name 4))) de_int) de_int) da_nil)) de_int) S.nd)
    (dss_cons (ds_set (i := 5) (de_op opS_mod (de_callTy callS_int rfl T.n_int boot_int (da_cons (de_op opS_add (de_op opS_add (de_op opS_mul (de_op opS_mul (de_name 5) (de_name 5)) de_int) (de_op opS_mul de_int (de_name 4))) (de_name 5)) da_nil)) de_int) S.nd)
    (dss_one (ds_expr (de_bm mtS_append F.plainAttrs_list F.slot_list_append F.type_list_append (de_name 2) (da_cons (de_op opS_mod (de_op opS_fdiv (de_name 5) de_int) (de_ix ixS_any (de_name 1) (de_name 4))) da_nil)))))))))
    (dss_one (ds_ret (de_name 2))))))
theorem sc_l_text : FnScope ["_law_tree_here"] ["_law_tree_here"] (defScope s_l_text) := ⟨rfl, rfl, rfl, by decide +kernel, rfl, by decide +kernel, by decide +kernel⟩
theorem ok_l_text_r (T : Fx K mg A) : ∀ d : Nat, DOk P w K mg base (0 + 1 * d) A.f_l_text A.d_l_text ["_law_tree_here"] (R_l_text d)
  | 0 => dok_stuck
  | d + 1 => by
    have ih : DOk P w K mg base (0 + 1 * d) A.f_l_text A.d_l_text ["_law_tree_here"] (R_l_text d) := ok_l_text_r T d
    have S := sc_l_text
    refine FnOk.mono (j := 0 + 1 * d + 0 + 1) (funD_ok (st := s_l_text) (N := ["_law_tree_here"]) (ps := ["_law_tree_here"]) (k := 0 + 1 * d + 0) (body := m_l_text (R_l_text d)) T.F_l_text S ?_) (by omega)
    intro cdv B outer s H E hr cx
    exact (dss_cons (ds_if (dt_tru (de_callB (callS_isi T.ic_isi T.tb_isi) rfl T.n_isinstance boot_isinstance (da_cons (de_name 0) (da_cons (de_ty rfl T.n_str boot_str) da_nil)))) (dss_one (ds_ret (de_name 0))) dss_nil)
      (dss_one (ds_ret (de_op opS_add (de_op opS_add (de_op opS_add (de_op opS_add (de_str (s := "(")) (de_call (x := "_law_text") (ps := ["_law_tree_here"]) (ih) (hr.mono (by omega)) cx.tk rfl T.g_l_text T.F_l_text.kp ⟨T.b_l_text_1⟩ (da_cons (de_ix ixS_any (de_name 0) de_int) da_nil))) (de_str (s := " "))) (de_call (x := "_law_text") (ps := ["_law_tree_here"]) (ih) (hr.mono (by omega)) cx.tk rfl T.g_l_text T.F_l_text.kp ⟨T.b_l_text_1⟩ (da_cons (de_ix ixS_any (de_name 0) de_int) da_nil))) (de_str (s := ")"))))))
theorem ok_l_text (T : Fx K mg A) : DOk P w K mg base 30 A.f_l_text A.d_l_text ["_law_tree_here"] F_l_text := ok_l_text_r T 30
theorem sc_WayD_eqD : FnScope ["self", "other"] ["self", "other"] (defScope s_WayD_eqD) := ⟨rfl, rfl, rfl, by decide +kernel, rfl, by decide +kernel, by decide +kernel⟩
theorem ok_WayD_eqD (T : Fx K mg A) : DOk P w K mg base 1 A.f_WayD_eqD A.d_WayD_eqD ["self", "other"] F_WayD_eqD := by
  have S := sc_WayD_eqD
  refine funD_ok (st := s_WayD_eqD) (N := ["self", "other"]) (ps := ["self", "other"]) (k := 0) (body := m_WayD_eqD) T.F_WayD_eqD S ?_
  intro cdv B outer s H E hr cx
  exact (dss_one (ds_ret (de_and (de_callB (callS_isi T.ic_isi T.tb_isi) rfl T.n_isinstance boot_isinstance (da_cons (de_name 1) (da_cons (de_glo rfl T.g_Way) da_nil))) (de_one (de_cmp (opS_eq hr.units) (de_fld (cs := ["Way"]) (f := "text") (T.fs_Way__text) (de_name 0)) (de_fld (cs := ["Way"]) (f := "text") (T.fs_Way__text) (de_name 1)))))))
theorem sc_l_cell : FnScope ["_law_script", "_law_k"] ["_law_script", "_law_k"] (defScope s_l_cell) := ⟨rfl, rfl, rfl, by decide +kernel, rfl, by decide +kernel, by decide +kernel⟩
theorem ok_l_cell (T : Fx K mg A) : DOk P w K mg base 1 A.f_l_cell A.d_l_cell ["_law_script", "_law_k"] F_l_cell := by
  have S := sc_l_cell
  refine funD_ok (st := s_l_cell) (N := ["_law_script", "_law_k"]) (ps := ["_law_script", "_law_k"]) (k := 0) (body := m_l_cell) T.F_l_cell S ?_
  intro cdv B outer s H E hr cx
  exact (dss_cons (ds_if (dt_cmp opS_lt (de_name 1) (de_callB callS_len rfl T.n_len boot_len (da_cons (de_name 0) da_nil))) (dss_one (ds_ret (de_ix ixS_any (de_name 0) (de_name 1)))) dss_nil)
    (dss_one (ds_ret de_int)))
theorem sc_l_word : FnScope ["_law_drawn", "_law_menu", "_law_k"] ["_law_drawn"] (defScope s_l_word) := ⟨rfl, rfl, rfl, by decide +kernel, rfl, by decide +kernel, by decide +kernel⟩
theorem ok_l_word (T : Fx K mg A) : DOk P w K mg base 1 A.f_l_word A.d_l_word ["_law_drawn"] F_l_word := by
  have S := sc_l_word
  refine funD_ok (st := s_l_word) (N := ["_law_drawn", "_law_menu", "_law_k"]) (ps := ["_law_drawn"]) (k := 0) (body := m_l_word) T.F_l_word S ?_
  intro cdv B outer s H E hr cx
  exact (dss_cons (ds_set (i := 1) (de_lst (da_cons (de_str (s := "a")) (da_cons (de_str (s := "b")) (da_cons (de_str (s := "c")) (da_cons (de_str (s := "e")) (da_cons (de_str (s := "z")) (da_cons (de_str (s := "ab")) (da_cons (de_str (s := "ee")) (da_cons (de_str (s := "zz")) (da_cons (de_str (s := "ez")) (da_cons (de_str (s := "abcdef")) da_nil))))))))))) S.nd)
    (dss_cons (ds_if (dt_cmp opS_lt (de_ix ixS_any (de_name 0) de_int) (de_callB callS_len rfl T.n_len boot_len (da_cons (de_name 1) da_nil))) (dss_one (ds_ret (de_ix ixS_any (de_name 1) (de_ix ixS_any (de_name 0) de_int)))) dss_nil)
    (dss_one (ds_ret (de_bm mtS_join F.plainAttrs_str F.slot_str_join F.type_str_join (de_str (s := "")) (da_cons (de_lc (own := [("_law_k", 2)]) cx.calm S.nd (di_any (de_sl (de_name 0) (do_some de_int) (do_some (de_op opS_add de_int (de_ix ixS_any (de_name 0) de_int))))) (blkOk_by (by first | kernel_rfl | decide +kernel)) (by decide) (fun _ _ _ _ _ => (dg_name S.nd)) (fun _ _ _ _ _ => by exact dts_nil) (fun _ _ _ _ _ => by exact (de_ix ixS_any (de_str (s := "abcdefghijklmnopqrstuvwxyz")) (de_name 2)))) da_nil))))))
theorem sc_WayD_strD : FnScope ["self"] ["self"] (defScope s_WayD_strD) := ⟨rfl, rfl, rfl, by decide +kernel, rfl, by decide +kernel, by decide +kernel⟩
theorem ok_WayD_strD (T : Fx K mg A) : DOk P w K mg base 1 A.f_WayD_strD A.d_WayD_strD ["self"] F_WayD_strD := by
  have S := sc_WayD_strD
  refine funD_ok (st := s_WayD_strD) (N := ["self"]) (ps := ["self"]) (k := 0) (body := m_WayD_strD) T.F_WayD_strD S ?_
  intro cdv B outer s H E hr cx
  exact (dss_one (ds_ret (de_callTy callS_strS rfl T.n_str boot_str (da_cons (de_fld (cs := ["Way"]) (f := "text") (T.fs_Way__text) (de_name 0)) da_nil))))
theorem sc_l_leaves : FnScope ["_law_tree_here"] ["_law_tree_here"] (defScope s_l_leaves) := ⟨rfl, rfl, rfl, by decide +kernel, rfl, by decide +kernel, by decide +kernel⟩
theorem ok_l_leaves_r (T : Fx K mg A) : ∀ d : Nat, DOk P w K mg base (0 + 1 * d) A.f_l_leaves A.d_l_leaves ["_law_tree_here"] (R_l_leaves d)
  | 0 => dok_stuck
  | d + 1 => by
    have ih : DOk P w K mg base (0 + 1 * d) A.f_l_leaves A.d_l_leaves ["_law_tree_here"] (R_l_leaves d) := ok_l_leaves_r T d
    have S := sc_l_leaves
    refine FnOk.mono (j := 0 + 1 * d + 0 + 1) (funD_ok (st := s_l_leaves) (N := ["_law_tree_here"]) (ps := ["_law_tree_here"]) (k := 0 + 1 * d + 0) (body := m_l_leaves (R_l_leaves d)) T.F_l_leaves S ?_) (by omega)
    intro cdv B outer s H E hr cx
    exact (dss_cons (ds_if (dt_tru (de_callB (callS_isi T.ic_isi T.tb_isi) rfl T.n_isinstance boot_isinstance (da_cons (de_name 0) (da_cons (de_ty rfl T.n_str boot_str) da_nil)))) (dss_one (ds_ret (de_lst (da_cons (de_name 0) da_nil)))) dss_nil)
      (dss_one (ds_ret (de_op opS_add (de_call (x := "_law_leaves") (ps := ["_law_tree_here"]) (ih) (hr.mono (by omega)) cx.tk rfl T.g_l_leaves T.F_l_leaves.kp ⟨T.b_l_leaves_1⟩ (da_cons (de_ix ixS_any (de_name 0) de_int) da_nil)) (de_call (x := "_law_leaves") (ps := ["_law_tree_here"]) (ih) (hr.mono (by omega)) cx.tk rfl T.g_l_leaves T.F_l_leaves.kp ⟨T.b_l_leaves_1⟩ (da_cons (de_ix ixS_any (de_name 0) de_int) da_nil))))))
theorem ok_l_leaves (T : Fx K mg A) : DOk P w K mg base 30 A.f_l_leaves A.d_l_leaves ["_law_tree_here"] F_l_leaves := ok_l_leaves_r T 30
theorem sc_WayD_lenD : FnScope ["self"] ["self"] (defScope s_WayD_lenD) := ⟨rfl, rfl, rfl, by decide +kernel, rfl, by decide +kernel, by decide +kernel⟩
theorem ok_WayD_lenD (T : Fx K mg A) : DOk P w K mg base 1 A.f_WayD_lenD A.d_WayD_lenD ["self"] F_WayD_lenD := by
  have S := sc_WayD_lenD
  refine funD_ok (st := s_WayD_lenD) (N := ["self"]) (ps := ["self"]) (k := 0) (body := m_WayD_lenD) T.F_WayD_lenD S ?_
  intro cdv B outer s H E hr cx
  exact (dss_one (ds_ret (de_callB callS_len rfl T.n_len boot_len (da_cons (de_fld (cs := ["Way"]) (f := "leaves") (T.fs_Way__leaves) (de_name 0)) da_nil))))
theorem sc_WayD_iterD : FnScope ["self"] ["self"] (defScope s_WayD_iterD) := ⟨rfl, rfl, rfl, by decide +kernel, rfl, by decide +kernel, by decide +kernel⟩
theorem ok_WayD_iterD (T : Fx K mg A) : FnOkY P w K mg base 1 A.f_WayD_iterD A.d_WayD_iterD ["self"] (spIt K A.c_Way (Str.ofString "leaves")) := iterF_ok (fld := "leaves") T.F_WayD_iterD sc_WayD_iterD T.ci_Way (by decide) T.n_iter
theorem sc_l_is : FnScope ["_law_way", "_law_tree_here", "_law_leaf"] ["_law_way", "_law_tree_here"] (defScope s_l_is) := ⟨rfl, rfl, rfl, by decide +kernel, rfl, by decide +kernel, by decide +kernel⟩
theorem ok_l_is_r (T : Fx K mg A) : ∀ d : Nat, DOk P w K mg base (92 + 1 * d) A.f_l_is A.d_l_is ["_law_way", "_law_tree_here"] (R_l_is d)
  | 0 => dok_stuck
  | d + 1 => by
    have ih : DOk P w K mg base (92 + 1 * d) A.f_l_is A.d_l_is ["_law_way", "_law_tree_here"] (R_l_is d) := ok_l_is_r T d
    have S := sc_l_is
    refine FnOk.mono (j := 92 + 1 * d + 0 + 1) (funD_ok (st := s_l_is) (N := ["_law_way", "_law_tree_here", "_law_leaf"]) (ps := ["_law_way", "_law_tree_here"]) (k := 92 + 1 * d + 0) (body := m_l_is (R_l_is d)) T.F_l_is S ?_) (by omega)
    intro cdv B outer s H E hr cx
    exact (dss_cons (ds_if (DW.dt (dw_or (dt_not (dt_tru (de_callB (callS_isi T.ic_isi T.tb_isi) rfl T.n_isinstance boot_isinstance (da_cons (de_name 0) (da_cons (de_glo rfl T.g_Way) da_nil))))) (dw_or (dt_cmp (opS_ne hr.units) (de_callTy (callS_strO (C := "Way") T.g_Way T.m_WayD_strD.at_ T.m_WayD_strD.fn T.bd_WayD_strD (ok_WayD_strD T) (hr.mono (by omega))) rfl T.n_str boot_str (da_cons (de_name 0) da_nil)) (de_call (x := "_law_text") (ps := ["_law_tree_here"]) (ok_l_text T) (hr.mono (by omega)) cx.tk rfl T.g_l_text T.F_l_text.kp ⟨T.b_l_text_1⟩ (da_cons (de_name 1) da_nil))) (dw_or1 (dt_not (dt_tru (de_callB (callS_isi T.ic_isi T.tb_isi) rfl T.n_isinstance boot_isinstance (da_cons (de_fld (cs := ["Way"]) (f := "leaves") (T.fs_Way__leaves) (de_name 0)) (da_cons (de_ty rfl T.n_tuple boot_tuple) da_nil))))))))) (dss_one (ds_ret de_bl)) dss_nil)
      (dss_cons (ds_if (DW.dt (dw_or (dt_cmp (opS_ne hr.units) (de_callTy callS_list rfl T.n_list boot_list (da_cons (de_fld (cs := ["Way"]) (f := "leaves") (T.fs_Way__leaves) (de_name 0)) da_nil)) (de_call (x := "_law_leaves") (ps := ["_law_tree_here"]) (ok_l_leaves T) (hr.mono (by omega)) cx.tk rfl T.g_l_leaves T.F_l_leaves.kp ⟨T.b_l_leaves_1⟩ (da_cons (de_name 1) da_nil))) (dw_or1 (dt_cmp (opS_ne hr.units) (de_lc (own := [("_law_leaf", 2)]) cx.calm S.nd (di_own (C := "Way") (f := "leaves") T.g_Way T.m_WayD_iterD.at_ T.m_WayD_iterD.fn (ok_WayD_iterD T) T.bd_WayD_iterD (hr.mono (by omega)) (de_name 0)) (blkOk_by (by first | kernel_rfl | decide +kernel)) (by decide) (fun _ _ _ _ _ => (dg_name S.nd)) (fun _ _ _ _ _ => by exact dts_nil) (fun _ _ _ _ _ => by exact (de_name 2))) (de_call (x := "_law_leaves") (ps := ["_law_tree_here"]) (ok_l_leaves T) (hr.mono (by omega)) cx.tk rfl T.g_l_leaves T.F_l_leaves.kp ⟨T.b_l_leaves_1⟩ (da_cons (de_name 1) da_nil)))))) (dss_one (ds_ret de_bl)) dss_nil)
      (dss_cons (ds_if (DW.dt (dw_or (dt_cmp (opS_ne hr.units) (de_callB (callS_lenO (C := "Way") T.g_Way T.m_WayD_lenD.at_ T.m_WayD_lenD.fn T.bd_WayD_lenD (ok_WayD_lenD T) (hr.mono (by omega))) rfl T.n_len boot_len (da_cons (de_name 0) da_nil)) (de_callB callS_len rfl T.n_len boot_len (da_cons (de_call (x := "_law_leaves") (ps := ["_law_tree_here"]) (ok_l_leaves T) (hr.mono (by omega)) cx.tk rfl T.g_l_leaves T.F_l_leaves.kp ⟨T.b_l_leaves_1⟩ (da_cons (de_name 1) da_nil)) da_nil))) (dw_or1 (dt_not (dt_cmp (opS_eqO (C := "Way") T.g_Way T.er_Way T.m_WayD_eqD.at_ T.m_WayD_eqD.fn T.bd_WayD_eqD (ok_WayD_eqD T) (hr.mono (by omega))) (de_name 0) (de_mk (C := "Way") (ps := ["self", "text"]) mkAs_T T.ci_Way T.mk_Way (ok_WayD_initD T) (hr.mono (by omega)) cx.tk rfl ⟨T.b_WayD_initD_2⟩ (da_cons (de_call (x := "_law_text") (ps := ["_law_tree_here"]) (ok_l_text T) (hr.mono (by omega)) cx.tk rfl T.g_l_text T.F_l_text.kp ⟨T.b_l_text_1⟩ (da_cons (de_name 1) da_nil)) da_nil))))))) (dss_one (ds_ret de_bl)) dss_nil)
      (dss_cons (ds_if (dt_tru (de_callB (callS_isi T.ic_isi T.tb_isi) rfl T.n_isinstance boot_isinstance (da_cons (de_name 1) (da_cons (de_ty rfl T.n_str boot_str) da_nil)))) (dss_one (ds_ret (de_and (de_cmp (opS_eq hr.units) (de_fld (cs := ["Way"]) (f := "name") (T.fs_Way__name) (de_name 0)) (de_name 1)) (de_and (de_cmp opS_isNF (de_fld (cs := ["Way"]) (f := "left") (T.fs_Way__left) (de_name 0)) de_non) (de_one (de_cmp opS_isNF (de_fld (cs := ["Way"]) (f := "right") (T.fs_Way__right) (de_name 0)) de_non)))))) dss_nil)
      (dss_one (ds_ret (de_and (de_cmp (opS_eq hr.units) (de_fld (cs := ["Way"]) (f := "name") (T.fs_Way__name) (de_name 0)) (de_str (s := ""))) (de_and (de_call (x := "_law_is") (ps := ["_law_way", "_law_tree_here"]) (ih) (hr.mono (by omega)) cx.tk rfl T.g_l_is T.F_l_is.kp ⟨T.b_l_is_2⟩ (da_cons (de_fld (cs := ["Way"]) (f := "left") (T.fs_Way__left) (de_name 0)) (da_cons (de_ix ixS_any (de_name 1) de_int) da_nil))) (de_one (de_call (x := "_law_is") (ps := ["_law_way", "_law_tree_here"]) (ih) (hr.mono (by omega)) cx.tk rfl T.g_l_is T.F_l_is.kp ⟨T.b_l_is_2⟩ (da_cons (de_fld (cs := ["Way"]) (f := "right") (T.fs_Way__right) (de_name 0)) (da_cons (de_ix ixS_any (de_name 1) de_int) da_nil))))))))))))
theorem ok_l_is (T : Fx K mg A) : DOk P w K mg base 122 A.f_l_is A.d_l_is ["_law_way", "_law_tree_here"] F_l_is := ok_l_is_r T 30
theorem sc_law : FnScope ["_law_script", "_law_many", "_law_words", "_law_at", "_law_drawn", "_law_tree_here", "_law_way"] ["_law_script"] (defScope s_law) := ⟨rfl, rfl, rfl, by decide +kernel, rfl, by decide +kernel, by decide +kernel⟩
theorem ok_law (T : Fx K mg A) : DOk P w K mg base 123 A.f_law A.d_law ["_law_script"] F_law := by
  have S := sc_law
  refine funD_ok (st := s_law) (N := ["_law_script", "_law_many", "_law_words", "_law_at", "_law_drawn", "_law_tree_here", "_law_way"]) (ps := ["_law_script"]) (k := 122) (body := m_law) T.F_law S ?_
  intro cdv B outer s H E hr cx
  exact (dss_cons (ds_set (i := 1) (de_op opS_add de_int (de_ix ixS_any (de_call (x := "_law_draws") (ps := ["_law_cell_here", "_law_sizes"]) (ok_l_draws T) (hr.mono (by omega)) cx.tk rfl T.g_l_draws T.F_l_draws.kp ⟨T.b_l_draws_2⟩ (da_cons (de_call (x := "_law_cell") (ps := ["_law_script", "_law_k"]) (ok_l_cell T) (hr.mono (by omega)) cx.tk rfl T.g_l_cell T.F_l_cell.kp ⟨T.b_l_cell_2⟩ (da_cons (de_name 0) (da_cons de_int da_nil))) (da_cons (de_lst (da_cons de_int da_nil)) da_nil))) de_int)) S.nd)
    (dss_cons (ds_set (i := 2) (de_cel da_nil) S.nd)
    (dss_cons (ds_for cx (di_range1 rfl T.n_range (da_cons (de_name 1) da_nil)) (dg_name S.nd) (dss_cons (ds_set (i := 4) (de_call (x := "_law_draws") (ps := ["_law_cell_here", "_law_sizes"]) (ok_l_draws T) (hr.mono (by omega)) cx.tk rfl T.g_l_draws T.F_l_draws.kp ⟨T.b_l_draws_2⟩ (da_cons (de_call (x := "_law_cell") (ps := ["_law_script", "_law_k"]) (ok_l_cell T) (hr.mono (by omega)) cx.tk rfl T.g_l_cell T.F_l_cell.kp ⟨T.b_l_cell_2⟩ (da_cons (de_name 0) (da_cons (de_op opS_add de_int (de_name 3)) da_nil))) (da_cons (de_op opS_add (de_lst (da_cons de_int (da_cons de_int da_nil))) (de_op opS_mul (de_lst (da_cons de_int da_nil)) de_int)) da_nil))) S.nd)
    (dss_one (ds_expr (de_bm mtS_append F.plainAttrs_list F.slot_list_append F.type_list_append (de_name 2) (da_cons (de_call (x := "_law_word") (ps := ["_law_drawn"]) (ok_l_word T) (hr.mono (by omega)) cx.tk rfl T.g_l_word T.F_l_word.kp ⟨T.b_l_word_1⟩ (da_cons (de_name 4) da_nil)) da_nil))))))
    (dss_cons (ds_set (i := 5) (de_call (x := "_law_tree") (ps := ["_law_leaves_here", "_law_picks"]) (ok_l_tree T) (hr.mono (by omega)) cx.tk rfl T.g_l_tree T.F_l_tree.kp ⟨T.b_l_tree_2⟩ (da_cons (de_name 2) (da_cons (de_call (x := "_law_draws") (ps := ["_law_cell_here", "_law_sizes"]) (ok_l_draws T) (hr.mono (by omega)) cx.tk rfl T.g_l_draws T.F_l_draws.kp ⟨T.b_l_draws_2⟩ (da_cons (de_call (x := "_law_cell") (ps := ["_law_script", "_law_k"]) (ok_l_cell T) (hr.mono (by omega)) cx.tk rfl T.g_l_cell T.F_l_cell.kp ⟨T.b_l_cell_2⟩ (da_cons (de_name 0) (da_cons de_int da_nil))) (da_cons (de_op opS_mul (de_lst (da_cons de_int da_nil)) de_int) da_nil))) da_nil))) S.nd)
    (dss_cons (ds_set (i := 6) (de_mk (C := "Way") (ps := ["self", "text"]) mkAs_T T.ci_Way T.mk_Way (ok_WayD_initD T) (hr.mono (by omega)) cx.tk rfl ⟨T.b_WayD_initD_2⟩ (da_cons (de_call (x := "_law_text") (ps := ["_law_tree_here"]) (ok_l_text T) (hr.mono (by omega)) cx.tk rfl T.g_l_text T.F_l_text.kp ⟨T.b_l_text_1⟩ (da_cons (de_name 5) da_nil)) da_nil)) S.nd)
    (dss_cons (ds_if (DW.dt (dw_or (dt_not (dt_tru (de_call (x := "_law_is") (ps := ["_law_way", "_law_tree_here"]) (ok_l_is T) (hr.mono (by omega)) cx.tk rfl T.g_l_is T.F_l_is.kp ⟨T.b_l_is_2⟩ (da_cons (de_name 6) (da_cons (de_name 5) da_nil))))) (dw_or1 (dt_not (dt_tru (de_call (x := "_law_is") (ps := ["_law_way", "_law_tree_here"]) (ok_l_is T) (hr.mono (by omega)) cx.tk rfl T.g_l_is T.F_l_is.kp ⟨T.b_l_is_2⟩ (da_cons (de_mk (C := "Way") (ps := ["self", "text"]) mkAs_T T.ci_Way T.mk_Way (ok_WayD_initD T) (hr.mono (by omega)) cx.tk rfl ⟨T.b_WayD_initD_2⟩ (da_cons (de_callTy (callS_strO (C := "Way") T.g_Way T.m_WayD_strD.at_ T.m_WayD_strD.fn T.bd_WayD_strD (ok_WayD_strD T) (hr.mono (by omega))) rfl T.n_str boot_str (da_cons (de_name 6) da_nil)) da_nil)) (da_cons (de_name 5) da_nil)))))))) (dss_one (ds_ret de_bl)) dss_nil)
    (dss_one (ds_ret (de_and (de_callB (callS_isi T.ic_isi T.tb_isi) rfl T.n_isinstance boot_isinstance (da_cons (de_callTy (callS_strO (C := "Way") T.g_Way T.m_WayD_strD.at_ T.m_WayD_strD.fn T.bd_WayD_strD (ok_WayD_strD T) (hr.mono (by omega))) rfl T.n_str boot_str (da_cons (de_name 6) da_nil)) (da_cons (de_ty rfl T.n_str boot_str) da_nil))) (de_and (de_cmp (opS_neO (C := "Way") T.g_Way T.er_Way T.m_WayD_eqD.at_ T.m_WayD_eqD.fn T.ne_Way T.mo_Way T.bd_WayD_eqD (ok_WayD_eqD T) (hr.mono (by omega))) (de_name 6) (de_call (x := "_law_text") (ps := ["_law_tree_here"]) (ok_l_text T) (hr.mono (by omega)) cx.tk rfl T.g_l_text T.F_l_text.kp ⟨T.b_l_text_1⟩ (da_cons (de_name 5) da_nil))) (de_one (de_not (de_cmp (opS_eqO (C := "Way") T.g_Way T.er_Way T.m_WayD_eqD.at_ T.m_WayD_eqD.fn T.bd_WayD_eqD (ok_WayD_eqD T) (hr.mono (by omega))) (de_name 6) (de_callTy callS_list rfl T.n_list boot_list (da_cons (de_fld (cs := ["Way"]) (f := "leaves") (T.fs_Way__leaves) (de_name 6)) da_nil)))))))))))))))
end
end Lk11

namespace Lk11
open PySem PySem.Spec L2 DL
open PyProof.Rows hiding St
theorem cell_run (ns : List Int) (k : Int) (hk : 0 ≤ k) (M : MS) : ∃ c, F_l_cell [.flst (ns.map D.int), .int k] M = .ok (.int c) M := by
  unfold F_l_cell
  rw [runD_ap]
  by_cases h : k < ns.length
  · obtain ⟨j, rfl⟩ : ∃ j : Nat, k = (j : Int) := ⟨k.toNat, by omega⟩
    have hj : j < ns.length := by omega
    refine ⟨ns[j], ?_⟩
    have e : ixD (.flst (ns.map D.int)) (.int (j : Int)) M = .ok (.int ns[j]) M := ixD_flst (atI_of (by simp [List.getElem?_eq_getElem hj]))
    simp [m_l_cell, startD, hj, e]
  · refine ⟨0, ?_⟩
    simp [m_l_cell, startD, h]
theorem get_last {M : MS} {o : MO} : (M ++ [o])[M.length]? = some o := by simp
theorem set_last {M : MS} {o o' : MO} : (M ++ [o]).set M.length o' = M ++ [o'] := by simp
/-- the draws for sizes -/
def DrawsOk (sizes xs : List Int) : Prop := xs.length = sizes.length ∧ ∀ (i : Nat) (x s : Int), xs[i]? = some x → sizes[i]? = some s → 0 ≤ x ∧ x < s
theorem draws_run {M : MS} {c : Int} {sizes : List Int} (hl : sizes.length ≤ 1000) (hs : ∀ s, s ∈ sizes → 0 < s ∧ s < 1073741824) :
    ∃ xs, F_l_draws [.int c, .lst (sizes.map D.int)] M = .ok (.cell M.length) (M ++ [.lst (xs.map D.int)]) ∧ DrawsOk sizes xs := by
  have key : ∃ sd' M', forGo (fun _ => True) (nameG 4) b_l_draws_1 (intsI (rangeN 0 (sizes.length : Int))).ds [some (.int c), some (.lst (sizes.map D.int)), some (.cell M.length), some (.int (if c < 0 then -c else c)), none, none] (M ++ [.lst []]) = .nx sd' M' ∧
      ∃ (xs : List Int) (left : Int) (o4 o5 : Option D), sd' = [some (.int c), some (.lst (sizes.map D.int)), some (.cell M.length), some (.int left), o4, o5] ∧ M' = M ++ [.lst (xs.map D.int)] ∧ xs.length = 0 + (intsI (rangeN 0 (sizes.length : Int))).ds.length ∧ ∀ (i : Nat) (x s : Int), xs[i]? = some x → sizes[i]? = some s → 0 ≤ x ∧ x < s := by
    refine forGo_go (chk := fun _ => True) (g := nameG 4) (body := b_l_draws_1) (fun k sd M' => ∃ (xs : List Int) (left : Int) (o4 o5 : Option D), sd = [some (.int c), some (.lst (sizes.map D.int)), some (.cell M.length), some (.int left), o4, o5] ∧ M' = M ++ [.lst (xs.map D.int)] ∧ xs.length = k ∧ ∀ (i : Nat) (x s : Int), xs[i]? = some x → sizes[i]? = some s → 0 ≤ x ∧ x < s) _ 0 _ _ ⟨[], _, _, _, rfl, rfl, rfl, fun i x s h => by simp at h⟩ (fun i d sd M' hi hI => ?_) (fun _ _ _ => trivial)
    obtain ⟨xs, left, o4, o5, rfl, rfl, hxl, hx⟩ := hI
    rw [Nat.zero_add] at hxl
    obtain ⟨rfl, hi2⟩ := get_rangeN hi
    rw [Int.zero_add]
    have hi3 : i < sizes.length := by omega
    obtain ⟨s0, s1⟩ := hs sizes[i] (List.getElem_mem hi3)
    have e1 : ixD (.lst (sizes.map D.int)) (.int (i : Int)) (M ++ [.lst (xs.map D.int)]) = .ok (.int sizes[i]) (M ++ [.lst (xs.map D.int)]) := ixD_lst (atI_of (by simp [List.getElem?_eq_getElem hi3]))
    have ap : ∀ y : Int, appendF (.cell M.length) [.int y] (M ++ [.lst (xs.map D.int)]) = .ok .non (M ++ [.lst ((xs ++ [y]).map D.int)]) := fun y => by
      unfold appendF
      simp only [get_last]
      rw [if_pos (by rw [List.length_map]; omega), set_last, List.map_append]
      rfl
    have hq : ∀ y : Int, 0 ≤ y ∧ y < sizes[i] → ∀ (j : Nat) (x s : Int), (xs ++ [y])[j]? = some x → sizes[j]? = some s → 0 ≤ x ∧ x < s := fun y hy j x s h1 h2 => by
      by_cases hj : j < xs.length
      · rw [List.getElem?_append_left hj] at h1
        exact hx j x s h1 h2
      · rw [List.getElem?_append_right (by omega)] at h1
        have hj0 : j - xs.length = 0 := by
          by_cases z : j - xs.length = 0
          · exact z
          · rw [List.getElem?_eq_none (by simp; omega)] at h1; cases h1
        rw [hj0] at h1
        have hx1 : y = x := by simpa using h1
        have hj1 : j = i := by omega
        subst hj1
        rw [List.getElem?_eq_getElem hi3] at h2
        cases h2
        subst hx1
        exact hy
    have tyv : ∀ L : List D, tyvD (M ++ [.lst L]) "list" (.cell M.length) = true := fun L => by unfold tyvD; simp
    refine ⟨trivial, _, rfl, ?_⟩
    have big : ((10 : Int) ^ (18 : Int).toNat) = 1000000000000000000 := by decide
    by_cases hc : (1000000000000000000 : Int) ≤ (if c < 0 then -c else c)
    · refine ⟨[some (.int c), some (.lst (sizes.map D.int)), some (.cell M.length), some (.int (left / sizes[i])), some (.int (i : Int)), o5], M ++ [.lst ((xs ++ [left % sizes[i]]).map D.int)], .inl ?_, xs ++ [left % sizes[i]], _, _, _, rfl, rfl, by simp [hxl], hq _ ⟨Int.emod_nonneg _ (by omega), Int.emod_lt_of_pos _ s0⟩⟩
      have e2 : ixD (.lst (sizes.map D.int)) (.int (i : Int)) (M ++ [.lst ((xs ++ [left % sizes[i]]).map D.int)]) = .ok (.int sizes[i]) (M ++ [.lst ((xs ++ [left % sizes[i]]).map D.int)]) := ixD_lst (atI_of (by simp [List.getElem?_eq_getElem hi3]))
      have a1 := ap (left % sizes[i])
      have t1 := tyv (xs.map D.int)
      generalize M ++ [.lst ((xs ++ [left % sizes[i]]).map D.int)] = MB at *
      generalize M ++ [.lst (xs.map D.int)] = MA at *
      generalize sizes.map D.int = sz at *
      simp [b_l_draws_1, powI_int, big, hc, bmK_ap t1, e1, a1, e2, modI_int s0, fdivI_int ⟨s0, s1⟩]
    · generalize hm1 : ((left + 11 * (i : Int) + 3) * 48271) % 2147483647 = m1
      have b1 : 0 ≤ m1 ∧ m1 < 2147483647 := by rw [← hm1]; exact ⟨Int.emod_nonneg _ (by decide), Int.emod_lt_of_pos _ (by decide)⟩
      generalize hm2 : (m1 * m1 * 16807 + 97 * (i : Int) + m1) % 2147483629 = m2
      refine ⟨[some (.int c), some (.lst (sizes.map D.int)), some (.cell M.length), some (.int left), some (.int (i : Int)), some (.int m2)], M ++ [.lst ((xs ++ [m2 / 5 % sizes[i]]).map D.int)], .inl ?_, xs ++ [m2 / 5 % sizes[i]], _, _, _, rfl, rfl, by simp [hxl], hq _ ⟨Int.emod_nonneg _ (by omega), Int.emod_lt_of_pos _ s0⟩⟩
      have a1 := ap (m2 / 5 % sizes[i])
      have t1 := tyv (xs.map D.int)
      generalize M ++ [.lst ((xs ++ [m2 / 5 % sizes[i]]).map D.int)] = MB at *
      generalize M ++ [.lst (xs.map D.int)] = MA at *
      generalize sizes.map D.int = sz at *
      simp [b_l_draws_1, powI_int, big, hc, bmK_ap t1, e1, a1, modI_int, fdivI_int, mulD_int (i := 11) (j := (i : Int)) (M := MA) (.inl ⟨by decide, by decide⟩), mulD_int (j := 48271) (M := MA) (.inr ⟨by decide, by decide⟩), hm1, mulD_int (i := m1) (j := m1) (M := MA) (.inr ⟨by omega, by omega⟩), mulD_int (j := 16807) (M := MA) (.inr ⟨by decide, by decide⟩), mulD_int (i := 97) (j := (i : Int)) (M := MA) (.inl ⟨by decide, by decide⟩), hm2, s0]
  obtain ⟨sd', M', e, xs, left, o4, o5, rfl, rfl, hxl, hx⟩ := key
  rw [Nat.zero_add, show (intsI (rangeN 0 (sizes.length : Int))).ds.length = sizes.length by rw [len_rangeN]; omega] at hxl
  refine ⟨xs, ?_, hxl, hx⟩
  unfold F_l_draws
  rw [runD_ap]
  have hr : r1K [.int (sizes.length : Int)] (M ++ [.lst []]) = .ok (intsI (rangeN 0 (sizes.length : Int))) (M ++ [.lst []]) := r1K_ap (by omega)
  simp [m_l_draws, startD, celK_ap, hr, e]
theorem DrawsOk.get {sizes xs : List Int} (h : DrawsOk sizes xs) (i : Nat) (s : Int) (hs : sizes[i]? = some s) : ∃ x, xs[i]? = some x ∧ 0 ≤ x ∧ x < s := by
  have hi : i < xs.length := by rw [h.1]; exact (List.getElem?_eq_some_iff.mp hs).1
  exact ⟨xs[i], List.getElem?_eq_getElem hi, h.2 i _ s (List.getElem?_eq_getElem hi) hs⟩
theorem DrawsOk.ix {sizes xs : List Int} (h : DrawsOk sizes xs) {M : MS} {n : Nat} (hm : M[n]? = some (.lst (xs.map D.int))) (i : Nat) (s : Int) (hs : sizes[i]? = some s) : ∃ x, xs[i]? = some x ∧ ixD (.cell n) (.int (i : Int)) M = .ok (.int x) M ∧ 0 ≤ x ∧ x < s := by
  obtain ⟨x, h1, h2, h3⟩ := h.get i s hs
  exact ⟨x, h1, ixD_cell hm (atI_of (by rw [List.getElem?_map, h1]; rfl)), h2, h3⟩
/-! ### tests, returns -/
section
variable {sd : SD} {M : MS} {ta tb : MB} {p q : Bool} {a : ME} {d : D} {r st : MST}
theorem andB_ok (h1 : ta sd M = .ok p M) (h2 : tb sd M = .ok q M) : andB ta tb sd M = .ok (p && q) M := by
  rw [andB_ap, h1, Res.bind_ok]
  cases p
  · rfl
  · rw [andBK_t, h2]; rfl
theorem orB_ok (h1 : ta sd M = .ok p M) (h2 : tb sd M = .ok q M) : orB ta tb sd M = .ok (p || q) M := by
  rw [orB_ap, h1, Res.bind_ok]
  cases p
  · rw [orBK_f, h2]; rfl
  · rfl
theorem ifret (h1 : ta sd M = .ok p M) (h2 : p = true → a sd M = .ok d M) : seqS (ifS ta (retS a) passS) r sd M = if p = true then .ret d M else r sd M := by
  rw [seqS_ap, ifS_ap, h1]
  cases p
  · rfl
  · rw [if_pos rfl]
    show ((retS a sd M).seq r) = _
    rw [retS_ap, h2 rfl]
    rfl
end
section
variable {sd : SD} {M : MS} {ta tb : MB} {p q : Bool} {a b : ME} {d : D} {r st : MST}
theorem notB_ok (h1 : ta sd M = .ok p M) : notB ta sd M = .ok (!p) M := by rw [notB_ap, h1]; rfl
theorem andE_ok (h1 : a sd M = .ok (.bl p) M) (h2 : p = true → b sd M = .ok (.bl q) M) : andE a b sd M = .ok (.bl (p && q)) M := by
  rw [andE_ap, h1, Res.bind_ok]
  cases p
  · rfl
  · rw [andK_t, h2 rfl]; rfl
theorem andB_ok' (h1 : ta sd M = .ok p M) (h2 : p = true → tb sd M = .ok q M) : andB ta tb sd M = .ok (p && q) M := by
  rw [andB_ap, h1, Res.bind_ok]
  cases p
  · rfl
  · rw [andBK_t, h2 rfl]; rfl
theorem orB_ok' (h1 : ta sd M = .ok p M) (h2 : p = false → tb sd M = .ok q M) : orB ta tb sd M = .ok (p || q) M := by
  rw [orB_ap, h1, Res.bind_ok]
  cases p
  · rw [orBK_f, h2 rfl]; rfl
  · rfl
theorem ifS_ok {s1 s2 : MST} (h1 : ta sd M = .ok p M) : ifS ta s1 s2 sd M = if p = true then s1 sd M else s2 sd M := by
  rw [ifS_ap, h1]
  cases p <;> rfl
end
theorem join_chars {M : MS} {xs : List Nat} (h : xs.length ≤ 1000000) : joinF (.str []) [.lst (xs.map fun c => D.str [c])] M = .ok (.str xs) M := by
  have e : (xs.map fun c => D.str [c]) = (xs.map fun c => [c]).map D.str := by rw [List.map_map]; rfl
  have e2 : ((xs.map fun c => [c]).map List.length).sum = xs.length := by
    rw [List.map_map]
    clear h e
    induction xs with
    | nil => rfl
    | cons x xs ih => simp [ih]; omega
  have e3 : (xs.map fun c => [c]).flatten = xs := by
    clear h e e2
    induction xs with
    | nil => rfl
    | cons x xs ih => simp [ih]
  rw [e, joinF_lst (by rw [e2]; simp; omega), joinL_nil, e3]
@[simp] theorem isiX_str {x : List Nat} {M : MS} : isiF csI (tblL tblI) [.str x, .ty "str"] M = .ok (.bl true) M := by rfl
@[simp] theorem isiX_tup {ds : List D} {M : MS} : isiF csI (tblL tblI) [.tup ds, .ty "str"] M = .ok (.bl false) M := by rfl
/-! ### trees as data -/
inductive T where
  | leaf (w : List Nat)
  | node (l r : T)
def T.d : T → D
  | .leaf w => .str w
  | .node l r => .tup [l.d, r.d]
def T.ws : T → List (List Nat)
  | .leaf w => [w]
  | .node l r => l.ws ++ r.ws
def T.txt : T → List Nat
  | .leaf w => w
  | .node l r => 40 :: (l.txt ++ (32 :: (r.txt ++ [41])))
def T.depth : T → Nat
  | .leaf _ => 0
  | .node l r => max l.depth r.depth + 1
/-- a leaf's word -/
def okW (w : List Nat) : Prop := 1 ≤ w.length ∧ w.length ≤ 6 ∧ ∀ c, c ∈ w → 97 ≤ c ∧ c ≤ 122
def T.ok : T → Prop
  | .leaf w => okW w
  | .node l r => l.ok ∧ r.ok
theorem T.ws_pos : ∀ t : T, 1 ≤ t.ws.length
  | .leaf _ => by simp [T.ws]
  | .node l r => by have := T.ws_pos l; simp [T.ws]; omega
theorem T.depth_lt : ∀ t : T, t.depth < t.ws.length
  | .leaf _ => by simp [T.ws, T.depth]
  | .node l r => by
    have h1 := T.depth_lt l
    have h2 := T.depth_lt r
    have h3 := T.ws_pos l
    have h4 := T.ws_pos r
    simp [T.ws, T.depth]
    omega
theorem T.txt_len : ∀ t : T, t.ok → t.txt.length + 3 ≤ 9 * t.ws.length ∧ 1 ≤ t.txt.length
  | .leaf w, h => by
    obtain ⟨h1, h2, _⟩ := h
    simp [T.txt, T.ws]; omega
  | .node l r, h => by
    have h1 := T.txt_len l h.1
    have h2 := T.txt_len r h.2
    simp [T.txt, T.ws]
    omega
theorem T.ok_of : ∀ t : T, (∀ w, w ∈ t.ws → okW w) → t.ok
  | .leaf w, h => h w (by simp [T.ws])
  | .node l r, h => ⟨T.ok_of l fun w hw => h w (by simp [T.ws, hw]), T.ok_of r fun w hw => h w (by simp [T.ws, hw])⟩
theorem T.ok_ws : ∀ t : T, t.ok → ∀ w, w ∈ t.ws → okW w
  | .leaf w, h, v, hv => by simp [T.ws] at hv; rw [hv]; exact h
  | .node l r, h, v, hv => by
    rcases List.mem_append.mp hv with hv | hv
    · exact T.ok_ws l h.1 v hv
    · exact T.ok_ws r h.2 v hv
theorem T.okC : ∀ t : T, t.ok → okC t.txt
  | .leaf w, h => fun c hc => by have := h.2.2 c hc; omega
  | .node l r, h => fun c hc => by
    have h1 := T.okC l h.1
    have h2 := T.okC r h.2
    simp only [T.txt, List.mem_cons, List.mem_append, List.not_mem_nil, or_false] at hc
    rcases hc with rfl | hc | rfl | hc | rfl
    · omega
    · exact h1 c hc
    · omega
    · exact h2 c hc
    · omega
theorem sLo : sL "(" = [40] := by decide +kernel
theorem sLc : sL ")" = [41] := by decide +kernel
theorem sLs : sL " " = [32] := by decide +kernel
theorem sLa : sL "abcdefghijklmnopqrstuvwxyz" = [97, 98, 99, 100, 101, 102, 103, 104, 105, 106, 107, 108, 109, 110, 111, 112, 113, 114, 115, 116, 117, 118, 119, 120, 121, 122] := by decide +kernel
theorem mem_az (c : Nat) : c ∈ sL "abcdefghijklmnopqrstuvwxyz" ↔ 97 ≤ c ∧ c ≤ 122 := by
  rw [sLa]
  simp only [List.mem_cons, List.not_mem_nil, or_false]
  omega
/-- _law_text -/
theorem ltext_run {M : MS} : ∀ (d : Nat) (t : T), t.ok → t.txt.length ≤ 100000 → t.depth < d → R_l_text d [t.d] M = .ok (.str t.txt) M
  | 0, _, _, _, h => absurd h (by omega)
  | d + 1, .leaf w, _, _, _ => by
    show runD 1 (m_l_text (R_l_text d)) [.str w] M = _
    rw [runD_ap]
    simp [m_l_text, startD, T.txt]
  | d + 1, .node l r, h, hl, hd => by
    have e1 := ltext_run (M := M) d l h.1 (by simp [T.txt] at hl; omega) (by simp [T.depth] at hd; omega)
    have e2 := ltext_run (M := M) d r h.2 (by simp [T.txt] at hl; omega) (by simp [T.depth] at hd; omega)
    show runD 1 (m_l_text (R_l_text d)) [.tup [l.d, r.d]] M = _
    rw [runD_ap]
    have q0 : ixD (.tup [l.d, r.d]) (.int 0) M = .ok l.d M := ixD_tup (atI_of (j := 0) rfl)
    have q1 : ixD (.tup [l.d, r.d]) (.int 1) M = .ok r.d M := ixD_tup (atI_of (j := 1) rfl)
    have hl2 : l.txt.length + r.txt.length + 3 ≤ 100000 := by simp [T.txt] at hl; omega
    have c1 : addD (.str [40]) (.str l.txt) M = .ok (.str ([40] ++ l.txt)) M := addD_str (by simp; omega)
    have c2 : addD (.str ([40] ++ l.txt)) (.str [32]) M = .ok (.str ([40] ++ l.txt ++ [32])) M := addD_str (by simp; omega)
    have c3 : addD (.str ([40] ++ l.txt ++ [32])) (.str r.txt) M = .ok (.str ([40] ++ l.txt ++ [32] ++ r.txt)) M := addD_str (by simp; omega)
    have c4 : addD (.str ([40] ++ l.txt ++ [32] ++ r.txt)) (.str [41]) M = .ok (.str ([40] ++ l.txt ++ [32] ++ r.txt ++ [41])) M := addD_str (by simp; omega)
    have fin : [40] ++ l.txt ++ [32] ++ r.txt ++ [41] = (T.node l r).txt := by simp [T.txt]
    rw [fin] at c4
    generalize (T.node l r).txt = tx at *
    generalize [40] ++ l.txt ++ [32] ++ r.txt = s4 at *
    generalize [40] ++ l.txt ++ [32] = s3 at *
    generalize [40] ++ l.txt = s2 at *
    simp [m_l_text, startD, sLo, sLc, sLs, callK_ap, q0, q1, e1, e2, c1, c2, c3, c4]
/-! ### _law_tree with a pair -/
theorem split2 {α : Type} (ts : List α) (p : Nat) (h : p + 1 < ts.length) : ∃ a b, ts[p]? = some a ∧ ts[p + 1]? = some b ∧ ts = ts.take p ++ [a, b] ++ ts.drop (p + 2) := by
  refine ⟨ts[p], ts[p + 1], List.getElem?_eq_getElem (by omega), List.getElem?_eq_getElem h, ?_⟩
  have h1 : ts = ts.take p ++ ts.drop p := (List.take_append_drop p ts).symm
  have h2 : ts.drop p = ts[p] :: ts.drop (p + 1) := List.drop_eq_getElem_cons (by omega)
  have h3 : ts.drop (p + 1) = ts[p + 1] :: ts.drop (p + 2) := List.drop_eq_getElem_cons h
  conv => lhs; rw [h1, h2, h3]
  simp
theorem tree_run {M : MS} {ws : List (List Nat)} {picks W0 : D} (hW1 : listF [W0] M = .ok (.lst (ws.map D.str)) M) (hW2 : lenF [W0] M = .ok (.int ws.length) M) (hn : 1 ≤ ws.length) (hl : ws.length ≤ 1000) (hp : ∀ k : Nat, k + 1 < ws.length → ∃ p : Int, ixD picks (.int (k : Int)) M = .ok (.int p) M) :
    ∃ t : T, F_l_tree [W0, picks] M = .ok t.d M ∧ t.ws = ws := by
  have key : ∃ sd' M', forGo (fun _ => True) (nameG 3) b_l_tree_1 (intsI (rangeN 0 ((ws.length : Int) - 1))).ds [some W0, some picks, some (.lst (ws.map D.str)), none, none, none] M = .nx sd' M' ∧
      ∃ (ts : List T) (o3 o4 o5 : Option D), sd' = [some W0, some picks, some (.lst (ts.map T.d)), o3, o4, o5] ∧ M' = M ∧ ts.length + (0 + (intsI (rangeN 0 ((ws.length : Int) - 1))).ds.length) = ws.length ∧ (ts.map T.ws).flatten = ws := by
    refine forGo_go (chk := fun _ => True) (g := nameG 3) (body := b_l_tree_1) (fun k sd M' => ∃ (ts : List T) (o3 o4 o5 : Option D), sd = [some W0, some picks, some (.lst (ts.map T.d)), o3, o4, o5] ∧ M' = M ∧ ts.length + k = ws.length ∧ (ts.map T.ws).flatten = ws) _ 0 _ _ ⟨ws.map T.leaf, none, none, none, by rw [List.map_map]; rfl, rfl, by simp, by
      rw [List.map_map]
      clear hn hl hp hW1 hW2
      induction ws with
      | nil => rfl
      | cons w ws ih => simp [T.ws] at ih ⊢; exact ih⟩ (fun i d sd M' hi hI => ?_) (fun _ _ _ => trivial)
    obtain ⟨ts, o3, o4, o5, rfl, rfl, hlen, hws⟩ := hI
    rw [Nat.zero_add] at hlen
    obtain ⟨rfl, hi2⟩ := get_rangeN hi
    rw [Int.zero_add]
    obtain ⟨p, e1⟩ := hp i (by omega)
    have hpos : (0 : Int) < (ts.length : Int) - 1 := by omega
    obtain ⟨q, hq⟩ : ∃ q : Nat, p % ((ts.length : Int) - 1) = (q : Int) := ⟨(p % ((ts.length : Int) - 1)).toNat, by have := Int.emod_nonneg p (show (ts.length : Int) - 1 ≠ 0 by omega); omega⟩
    have hq2 : q + 1 < ts.length := by have := Int.emod_lt_of_pos p hpos; omega
    obtain ⟨a, b, ha, hb, hsp⟩ := split2 ts q hq2
    refine ⟨trivial, _, rfl, [some W0, some picks, some (.lst ((ts.take q ++ [T.node a b] ++ ts.drop (q + 2)).map T.d)), some (.int (i : Int)), some (.int (q : Int)), some (.tup [a.d, b.d])], M', .inl ?_, ts.take q ++ [T.node a b] ++ ts.drop (q + 2), _, _, _, rfl, rfl, ?_, ?_⟩
    · have g1 : ixD (.lst (ts.map T.d)) (.int (q : Int)) M' = .ok a.d M' := ixD_lst (atI_of (by rw [List.getElem?_map, ha]; rfl))
      have g2 : ixD (.lst (ts.map T.d)) (.int ((q : Int) + 1)) M' = .ok b.d M' := by
        rw [show (q : Int) + 1 = ((q + 1 : Nat) : Int) by omega]
        exact ixD_lst (atI_of (by rw [List.getElem?_map, hb]; rfl))
      have s1 : cutL (ts.map T.d) none (some (q : Int)) = (ts.take q).map T.d := by rw [cutL_to, List.map_take]
      have s2 : cutL (ts.map T.d) (some ((q : Int) + 2)) none = (ts.drop (q + 2)).map T.d := by rw [show (q : Int) + 2 = ((q + 2 : Nat) : Int) by omega, cutL_from, List.map_drop]
      have a1 : addD (.lst ((ts.take q).map T.d)) (.lst [.tup [a.d, b.d]]) M' = .ok (.lst ((ts.take q ++ [T.node a b]).map T.d)) M' := by
        rw [addD_lst (by simp; omega)]; simp [T.d]
      have a2 : addD (.lst ((ts.take q ++ [T.node a b]).map T.d)) (.lst ((ts.drop (q + 2)).map T.d)) M' = .ok (.lst ((ts.take q ++ [T.node a b] ++ ts.drop (q + 2)).map T.d)) M' := by
        rw [addD_lst (by simp; omega), ← List.map_append]
      have hL : (ts.map T.d).length = ts.length := by simp
      generalize (ts.take q ++ [T.node a b] ++ ts.drop (q + 2)).map T.d = r3 at *
      generalize (ts.take q ++ [T.node a b]).map T.d = r2 at *
      generalize (ts.take q).map T.d = r1 at *
      generalize (ts.drop (q + 2)).map T.d = r0 at *
      generalize hX : ts.map T.d = X at *
      simp [b_l_tree_1, e1, modI_int hpos, hL, hq, g1, g2, s1, s2, lstK_ap, tupK_ap, a1, a2]
    · simp only [List.length_append, List.length_take, List.length_drop, List.length_cons, List.length_nil]
      omega
    · rw [← hws]
      conv => rhs; rw [hsp]
      simp [T.ws]
  obtain ⟨sd', M', e, ts, o3, o4, o5, rfl, rfl, hlen, hws⟩ := key
  rw [Nat.zero_add, show (intsI (rangeN 0 ((ws.length : Int) - 1))).ds.length = ws.length - 1 by rw [len_rangeN]; omega] at hlen
  obtain ⟨t, rfl⟩ : ∃ t, ts = [t] := by
    match ts, hlen with
    | [], h => simp at h; omega
    | [t], _ => exact ⟨t, rfl⟩
    | _ :: _ :: _, h => simp at h; omega
  refine ⟨t, ?_, by simpa using hws⟩
  unfold F_l_tree
  rw [runD_ap]
  have hr : r1K [.int ((ws.length : Int) - 1)] M' = .ok (intsI (rangeN 0 ((ws.length : Int) - 1))) M' := r1K_ap (by omega)
  have q0 : ixD (.lst [t.d]) (.int 0) M' = .ok t.d M' := ixD_lst (atI_of (j := 0) rfl)
  generalize ws.map D.str = W at *
  simp only [List.map_cons, List.map_nil] at e
  simp [m_l_tree, startD, hW1, hW2, hr, e, q0]
/-! ### the reader of ways -/
/-- what may stand behind a way -/
def Stop (rest : List Nat) : Prop := rest = [] ∨ ∃ c r, rest = c :: r ∧ (c = 32 ∨ c = 41)
theorem ix_at {M : MS} {x : List Nat} {i : Nat} {c : Nat} (hx : x.length ≤ 1000000) (h : x[i]? = some c) : ixD (.str x) (.int (i : Int)) M = .ok (.str [c]) M := ixD_str hx (atI_of h)
theorem app_at {pre w rest : List Nat} {j : Nat} (h : j < w.length) : (pre ++ w ++ rest)[pre.length + j]? = some w[j] := by
  rw [List.append_assoc, List.getElem?_append_right (by omega), List.getElem?_append_left (by omega)]
  simp
theorem app_end {pre w rest : List Nat} : (pre ++ w ++ rest)[pre.length + w.length]? = rest[0]? := by
  rw [List.append_assoc, List.getElem?_append_right (by omega), List.getElem?_append_right (by omega)]
  simp
/-- the letters of a name are counted -/
theorem name_loop {M : MS} {G : FM} {pre w rest : List Nat} {o2 o3 : Option D} (hw : okW w) (hs : Stop rest) (hl : (pre ++ w ++ rest).length ≤ 100000) : ∀ (k j n : Nat), k + j = w.length → k < n →
    whileGo (t_end_of_1 G) (b_end_of_1 G) n [some (.str (pre ++ w ++ rest)), some (.int (pre.length : Int)), o2, o3, some (.int (j : Int))] M = .nx [some (.str (pre ++ w ++ rest)), some (.int (pre.length : Int)), o2, o3, some (.int (w.length : Int))] M
  | 0, j, n + 1, hj, _ => by
    have hj : j = w.length := by omega
    subst hj
    refine whileGo_f ?_
    rcases hs with rfl | ⟨c, r, rfl, hc⟩
    · have h1 : ¬ ((pre.length : Int) + (w.length : Int) < ((pre ++ w ++ ([] : List Nat)).length : Int)) := by simp
      generalize hX : pre ++ w ++ ([] : List Nat) = X at *
      simp [t_end_of_1, lenF_str (show X.length ≤ 1000000 by omega), h1]
    · have e1 : ixD (.str (pre ++ w ++ c :: r)) (.int ((pre.length : Int) + (w.length : Int))) M = .ok (.str [c]) M := by
        rw [show (pre.length : Int) + (w.length : Int) = ((pre.length + w.length : Nat) : Int) by omega]
        exact ix_at (by omega) (by rw [app_end]; rfl)
      have h1 : ((pre.length : Int) + (w.length : Int) < ((pre ++ w ++ c :: r).length : Int)) := by simp; omega
      have h2 : ¬ c ∈ sL "abcdefghijklmnopqrstuvwxyz" := by rw [mem_az]; omega
      generalize hX : pre ++ w ++ c :: r = X at *
      simp [t_end_of_1, lenF_str (show X.length ≤ 1000000 by omega), h1, e1, subIn_one, h2]
  | k + 1, j, n + 1, hj, hn => by
    have hjl : j < w.length := by omega
    have ih := name_loop (M := M) (G := G) (pre := pre) (w := w) (rest := rest) (o2 := o2) (o3 := o3) hw hs hl k (j + 1) n (by omega) (by omega)
    have e1 : ixD (.str (pre ++ w ++ rest)) (.int ((pre.length : Int) + (j : Int))) M = .ok (.str [w[j]]) M := by
      rw [show (pre.length : Int) + (j : Int) = ((pre.length + j : Nat) : Int) by omega]
      exact ix_at (by omega) (app_at hjl)
    have h1 : ((pre.length : Int) + (j : Int) < ((pre ++ w ++ rest).length : Int)) := by simp; omega
    have h2 : w[j] ∈ sL "abcdefghijklmnopqrstuvwxyz" := by rw [mem_az]; exact hw.2.2 _ (List.getElem_mem hjl)
    have h3 : (j : Int) < 6 := by have := hw.2.1; omega
    rw [whileGo_t (sd2 := [some (.str (pre ++ w ++ rest)), some (.int (pre.length : Int)), o2, o3, some (.int ((j + 1 : Nat) : Int))]) (M1 := M) (M2 := M) ?_ ?_]
    · exact ih
    · generalize hX : pre ++ w ++ rest = X at *
      simp [t_end_of_1, lenF_str (show X.length ≤ 1000000 by omega), h1, e1, subIn_one, h2, h3]
    · simp [b_end_of_1]
theorem leaf_head {w : List Nat} (h : okW w) : ∃ c r, w = c :: r ∧ 97 ≤ c ∧ c ≤ 122 := by
  cases w with
  | nil => have := h.1; simp at this
  | cons c r => exact ⟨c, r, rfl, h.2.2 c List.mem_cons_self⟩
theorem exp_run {M : MS} {x : List Nat} {i c : Nat} (hx : x.length ≤ 100000) (h : x[i]? = some c) : F_expected [.str x, .int (i : Int), .str [c]] M = .ok .non M := by
  have hi := (List.getElem?_eq_some_iff.mp h).1
  have e1 := ix_at (M := M) (show x.length ≤ 1000000 by omega) h
  have h1 : ((i : Int) == (x.length : Int)) = false := by simp; omega
  unfold F_expected
  rw [runD_ap]
  simp [m_expected, startD, lenF_str (show x.length ≤ 1000000 by omega), h1, e1]
/-- end_of -/
theorem end_run {M : MS} : ∀ (d : Nat) (t : T), t.ok → t.depth < d → ∀ (pre rest : List Nat), (pre ++ t.txt ++ rest).length ≤ 100000 → Stop rest →
    R_end_of d [.str (pre ++ t.txt ++ rest), .int (pre.length : Int)] M = .ok (.int ((pre.length + t.txt.length : Nat) : Int)) M
  | 0, _, _, h, _, _, _, _ => absurd h (by omega)
  | d + 1, .leaf w, h, _, pre, rest, hl, hs => by
    have hw : okW w := h
    obtain ⟨c, r, hcr, hc1, hc2⟩ := leaf_head hw
    have hl : (pre ++ w ++ rest).length ≤ 100000 := hl
    have loop := name_loop (M := M) (G := R_end_of d) (pre := pre) (w := w) (rest := rest) (o2 := none) (o3 := none) hw hs hl w.length 0 1000 (by omega) (by have := hw.2.1; omega)
    have hpos := hw.1
    have e1 : ixD (.str (pre ++ w ++ rest)) (.int (pre.length : Int)) M = .ok (.str [c]) M := by
      have := app_at (pre := pre) (w := w) (rest := rest) (j := 0) (by omega)
      rw [Nat.add_zero] at this
      refine ix_at (by omega) (this.trans ?_)
      subst hcr
      rfl
    have h1 : ((pre.length : Int) == ((pre ++ w ++ rest).length : Int)) = false := by simp; omega
    have h2 : ([c] == [40]) = false := by simp; omega
    have h3 : ((w.length : Int) == 0) = false := by simp only [beq_eq_false_iff_ne, ne_eq]; omega
    show runD 5 (m_end_of (R_end_of d)) [.str (pre ++ w ++ rest), .int (pre.length : Int)] M = .ok (.int ((pre.length + w.length : Nat) : Int)) M
    rw [runD_ap]
    generalize hX : pre ++ w ++ rest = X at *
    have loop : whileGo (t_end_of_1 (R_end_of d)) (b_end_of_1 (R_end_of d)) 1000 [some (.str X), some (.int (pre.length : Int)), none, none, some (.int 0)] M = .nx [some (.str X), some (.int (pre.length : Int)), none, none, some (.int (w.length : Int))] M := loop
    simp [m_end_of, startD, lenF_str (show X.length ≤ 1000000 by omega), h1, sLo, e1, h2, whileS_ap, loop, h3]
  | d + 1, .node l r, h, hd, pre, rest, hl, hs => by
    have hdl : l.depth < d := by simp [T.depth] at hd; omega
    have hdr : r.depth < d := by simp [T.depth] at hd; omega
    obtain ⟨X, hX⟩ : ∃ X, X = pre ++ (T.node l r).txt ++ rest := ⟨_, rfl⟩
    rw [← hX] at hl ⊢
    have x1 : X = (pre ++ [40]) ++ l.txt ++ (32 :: (r.txt ++ (41 :: rest))) := by rw [hX]; simp [T.txt]
    have x2 : X = (pre ++ [40] ++ l.txt ++ [32]) ++ r.txt ++ (41 :: rest) := by rw [hX]; simp [T.txt]
    have hXl : X.length = pre.length + l.txt.length + r.txt.length + 3 + rest.length := by rw [hX]; simp [T.txt]; omega
    have e1 := end_run (M := M) d l h.1 hdl (pre ++ [40]) (32 :: (r.txt ++ (41 :: rest))) (by rw [← x1]; exact hl) (.inr ⟨_, _, rfl, .inl rfl⟩)
    rw [← x1] at e1
    have e2 := end_run (M := M) d r h.2 hdr (pre ++ [40] ++ l.txt ++ [32]) (41 :: rest) (by rw [← x2]; exact hl) (.inr ⟨_, _, rfl, .inr rfl⟩)
    rw [← x2] at e2
    have g0 : X[pre.length]? = some 40 := by rw [hX]; simp [T.txt]
    have g1 : X[(pre ++ [40]).length + l.txt.length]? = some 32 := by rw [x1, app_end]; rfl
    have g2 : X[(pre ++ [40] ++ l.txt ++ [32]).length + r.txt.length]? = some 41 := by rw [x2, app_end]; rfl
    have f0 := ix_at (M := M) (show X.length ≤ 1000000 by omega) g0
    have f1 := exp_run (M := M) hl g1
    have f2 := exp_run (M := M) hl g2
    have h1 : ((pre.length : Int) == (X.length : Int)) = false := by simp; omega
    have i1 : (((pre ++ [40]).length : Nat) : Int) = (pre.length : Int) + 1 := by simp
    have i2 : (((pre ++ [40] ++ l.txt ++ [32]).length : Nat) : Int) = (((pre ++ [40]).length + l.txt.length : Nat) : Int) + 1 := by simp; omega
    have i3 : ((pre.length + (T.node l r).txt.length : Nat) : Int) = (((pre ++ [40] ++ l.txt ++ [32]).length + r.txt.length : Nat) : Int) + 1 := by simp [T.txt]; omega
    rw [i1] at e1
    rw [i2] at e2
    rw [i3]
    generalize (((pre ++ [40]).length + l.txt.length : Nat) : Int) = k1 at *
    generalize (((pre ++ [40] ++ l.txt ++ [32]).length + r.txt.length : Nat) : Int) = k2 at *
    show runD 5 (m_end_of (R_end_of d)) [.str X, .int (pre.length : Int)] M = _
    rw [runD_ap]
    simp [m_end_of, startD, lenF_str (show X.length ≤ 1000000 by omega), h1, sLo, sLs, sLc, f0, callK_ap, e1, f1, e2, f2]
/-- the way of a tree -/
def T.w : T → D
  | .leaf v => .obj "Way" ["text", "name", "left", "right", "leaves"] [.str v, .str v, .non, .non, .tup [.str v]]
  | .node l r => .obj "Way" ["text", "name", "left", "right", "leaves"] [.str (T.node l r).txt, .str [], l.w, r.w, .tup ((T.node l r).ws.map D.str)]
theorem T.w_text : ∀ t : T, ∃ n l r, t.w = .obj "Way" ["text", "name", "left", "right", "leaves"] [.str t.txt, n, l, r, .tup (t.ws.map D.str)]
  | .leaf v => ⟨_, _, _, rfl⟩
  | .node l r => ⟨_, _, _, rfl⟩
theorem T.w_ncs {n : Nat} : ∀ t : T, nc n t.w = true
  | .leaf v => by simp [T.w, nc, ncs]
  | .node l r => by
    have h1 := T.w_ncs (n := n) l
    have h2 := T.w_ncs (n := n) r
    have h3 : ∀ xs : List (List Nat), ncs n (xs.map D.str) = true := fun xs => by
      induction xs with
      | nil => simp [ncs]
      | cons x xs ih => simp [ncs, nc, ih]
    simp [T.w, nc, ncs, h1, h2, h3]

theorem list6 {M : MS} {o : MO} : (M ++ [o])[M.length]? = some o := by simp
set_option maxHeartbeats 2000000 in
theorem way_leaf {G : FM} {w : List Nat} (h : okW w) (hl : w.length ≤ 90000) (M : MS) : mkT "Way" (runD 4 (m_WayD_initD G)) [.str w] M = .ok (T.leaf w).w M := by
  have hw : okW w := h
  have hd30 : (T.leaf w).depth < 30 := by simp [T.depth]
  obtain ⟨c, r, hcr, hc1, hc2⟩ := leaf_head hw
  refine mkT_of (ns := ["text", "name", "left", "right", "leaves"]) ?_ (by have := T.w_ncs (n := M.length) (T.leaf w); simpa [T.w, nc] using this)
  rw [runD_ap]
  have e1 := end_run (M := M ++ [.obj "Way" [] []]) 30 (.leaf w) hw hd30 [] [] (by simp [T.txt]; omega) (.inl rfl)
  simp only [List.nil_append, List.append_nil, T.txt, List.length_nil, Nat.zero_add] at e1
  have e1 : F_end_of [.str w, .int 0] (M ++ [.obj "Way" [] []]) = .ok (.int (w.length : Int)) (M ++ [.obj "Way" [] []]) := e1
  have s1 : ∀ v : D, sfK2 ["Way"] "text" [some (.cell M.length), some (.str w), some (.int (w.length : Int)), none] v (.cell M.length) (M ++ [.obj "Way" [] []]) = .nx [some (.cell M.length), some (.str w), some (.int (w.length : Int)), none] (M ++ [.obj "Way" ["text"] [v]]) := fun v => by
    rw [sfK2_cell list6 (by simp)]; simp [putN]
  have s2 : ∀ a v : D, sfK2 ["Way"] "name" [some (.cell M.length), some (.str w), some (.int (w.length : Int)), none] v (.cell M.length) (M ++ [.obj "Way" ["text"] [a]]) = .nx [some (.cell M.length), some (.str w), some (.int (w.length : Int)), none] (M ++ [.obj "Way" ["text", "name"] [a, v]]) := fun a v => by
    rw [sfK2_cell list6 (by simp)]; simp [putN]
  have s3 : ∀ a b v : D, sfK2 ["Way"] "left" [some (.cell M.length), some (.str w), some (.int (w.length : Int)), none] v (.cell M.length) (M ++ [.obj "Way" ["text", "name"] [a, b]]) = .nx [some (.cell M.length), some (.str w), some (.int (w.length : Int)), none] (M ++ [.obj "Way" ["text", "name", "left"] [a, b, v]]) := fun a b v => by
    rw [sfK2_cell list6 (by simp)]; simp [putN]
  have s4 : ∀ a b c' v : D, sfK2 ["Way"] "right" [some (.cell M.length), some (.str w), some (.int (w.length : Int)), none] v (.cell M.length) (M ++ [.obj "Way" ["text", "name", "left"] [a, b, c']]) = .nx [some (.cell M.length), some (.str w), some (.int (w.length : Int)), none] (M ++ [.obj "Way" ["text", "name", "left", "right"] [a, b, c', v]]) := fun a b c' v => by
    rw [sfK2_cell list6 (by simp)]; simp [putN]
  have s5 : ∀ a b c' d' v : D, sfK2 ["Way"] "name" [some (.cell M.length), some (.str w), some (.int (w.length : Int)), none] v (.cell M.length) (M ++ [.obj "Way" ["text", "name", "left", "right"] [a, b, c', d']]) = .nx [some (.cell M.length), some (.str w), some (.int (w.length : Int)), none] (M ++ [.obj "Way" ["text", "name", "left", "right"] [a, v, c', d']]) := fun a b c' d' v => by
    rw [sfK2_cell list6 (by simp)]; simp [putN]
  have s6 : ∀ a b c' d' v : D, sfK2 ["Way"] "leaves" [some (.cell M.length), some (.str w), some (.int (w.length : Int)), none] v (.cell M.length) (M ++ [.obj "Way" ["text", "name", "left", "right"] [a, b, c', d']]) = .nx [some (.cell M.length), some (.str w), some (.int (w.length : Int)), none] (M ++ [.obj "Way" ["text", "name", "left", "right", "leaves"] [a, b, c', d', v]]) := fun a b c' d' v => by
    rw [sfK2_cell list6 (by simp)]; simp [putN]
  have g0 : ∀ M1 : MS, ixD (.str w) (.int 0) M1 = .ok (.str [c]) M1 := fun M1 => by subst hcr; exact ix_at (i := 0) (by omega) rfl
  have h2 : ([c] == [40]) = false := by simp; omega
  simp [m_WayD_initD, startD, callK_ap, e1, lenF_str (show w.length ≤ 1000000 by omega), s1, s2, s3, s4, s5, s6, g0, sLo, h2, tupK_ap]
set_option maxHeartbeats 4000000 in
theorem way_node {G : FM} {l r : T} (h : (T.node l r).ok) (hl : (T.node l r).txt.length ≤ 90000) (hn : (T.node l r).ws.length ≤ 1000) (hd30 : (T.node l r).depth < 30) (i1 : ∀ M : MS, mkT "Way" G [.str l.txt] M = .ok l.w M) (i2 : ∀ M : MS, mkT "Way" G [.str r.txt] M = .ok r.w M) (M : MS) :
    mkT "Way" (runD 4 (m_WayD_initD G)) [.str (T.node l r).txt] M = .ok (T.node l r).w M := by
  have dl30 : l.depth < 30 := by simp [T.depth] at hd30; omega
  have dr30 : r.depth < 30 := by simp [T.depth] at hd30; omega
  have hl2 : l.txt.length + r.txt.length + 3 ≤ 90000 := by simp [T.txt] at hl; omega
  have hn2 : l.ws.length + r.ws.length ≤ 1000 := by simpa [T.ws] using hn
  obtain ⟨ln, ll, lr, hlw⟩ := l.w_text
  obtain ⟨rn, rl, rr, hrw⟩ := r.w_text
  refine mkT_of (ns := ["text", "name", "left", "right", "leaves"]) ?_ (by have := T.w_ncs (n := M.length) (T.node l r); simpa [T.w, nc] using this)
  obtain ⟨X, hX⟩ : ∃ X, X = (T.node l r).txt := ⟨_, rfl⟩
  rw [← hX] at hl ⊢
  rw [runD_ap]
  have hXl : X.length = l.txt.length + r.txt.length + 3 := by rw [hX]; simp [T.txt]; omega
  have e1 := end_run (M := M ++ [.obj "Way" [] []]) 30 (.node l r) h hd30 [] [] (by rw [List.nil_append, List.append_nil, ← hX]; omega) (.inl rfl)
  simp only [List.nil_append, List.append_nil, List.length_nil, Nat.zero_add, ← hX] at e1
  have e1 : F_end_of [.str X, .int 0] (M ++ [.obj "Way" [] []]) = .ok (.int (X.length : Int)) (M ++ [.obj "Way" [] []]) := e1
  have e2 := fun M1 : MS => end_run (M := M1) 30 l h.1 dl30 [40] (32 :: (r.txt ++ [41])) (by simp; omega) (.inr ⟨_, _, rfl, .inl rfl⟩)
  have x1 : [40] ++ l.txt ++ 32 :: (r.txt ++ [41]) = X := by rw [hX]; simp [T.txt]
  simp only [x1] at e2
  have e2 : ∀ M1 : MS, F_end_of [.str X, .int 1] M1 = .ok (.int ((1 + l.txt.length : Nat) : Int)) M1 := e2
  have c1 : cutL X (some 1) (some ((1 + l.txt.length : Nat) : Int)) = l.txt := by
    rw [show (1 : Int) = ((1 : Nat) : Int) from rfl, cutL_mid X 1 (1 + l.txt.length) (by omega) (by omega), ← x1]
    simp
  have c2 : cutL X (some (((1 + l.txt.length : Nat) : Int) + 1)) (some (-1)) = r.txt := by
    rw [show (((1 + l.txt.length : Nat) : Int) + 1) = ((2 + l.txt.length : Nat) : Int) by omega, cutL_last X (2 + l.txt.length) (by omega), ← x1]
    rw [show [40] ++ l.txt ++ 32 :: (r.txt ++ [41]) = ([40] ++ l.txt ++ [32]) ++ (r.txt ++ [41]) by simp, List.drop_append_of_le_length (by simp; omega)]
    rw [List.drop_of_length_le (by simp; omega)]
    simp
  have sd1 : ∀ M1 lo hi, sliceD (.str X) lo hi M1 = .ok (.str (cutL X lo hi)) M1 := fun M1 lo hi => sliceD_str (by omega)
  have s1 : ∀ v : D, sfK2 ["Way"] "text" [some (.cell M.length), some (.str X), some (.int (X.length : Int)), none] v (.cell M.length) (M ++ [.obj "Way" [] []]) = .nx [some (.cell M.length), some (.str X), some (.int (X.length : Int)), none] (M ++ [.obj "Way" ["text"] [v]]) := fun v => by
    rw [sfK2_cell list6 (by simp)]; simp [putN]
  have s2 : ∀ a v : D, sfK2 ["Way"] "name" [some (.cell M.length), some (.str X), some (.int (X.length : Int)), none] v (.cell M.length) (M ++ [.obj "Way" ["text"] [a]]) = .nx [some (.cell M.length), some (.str X), some (.int (X.length : Int)), none] (M ++ [.obj "Way" ["text", "name"] [a, v]]) := fun a v => by
    rw [sfK2_cell list6 (by simp)]; simp [putN]
  have s3 : ∀ a b v : D, sfK2 ["Way"] "left" [some (.cell M.length), some (.str X), some (.int (X.length : Int)), none] v (.cell M.length) (M ++ [.obj "Way" ["text", "name"] [a, b]]) = .nx [some (.cell M.length), some (.str X), some (.int (X.length : Int)), none] (M ++ [.obj "Way" ["text", "name", "left"] [a, b, v]]) := fun a b v => by
    rw [sfK2_cell list6 (by simp)]; simp [putN]
  have s4 : ∀ a b c' v : D, sfK2 ["Way"] "right" [some (.cell M.length), some (.str X), some (.int (X.length : Int)), none] v (.cell M.length) (M ++ [.obj "Way" ["text", "name", "left"] [a, b, c']]) = .nx [some (.cell M.length), some (.str X), some (.int (X.length : Int)), none] (M ++ [.obj "Way" ["text", "name", "left", "right"] [a, b, c', v]]) := fun a b c' v => by
    rw [sfK2_cell list6 (by simp)]; simp [putN]
  have s5 : ∀ (o3 : Option D) (a b c' d' v : D), sfK2 ["Way"] "left" [some (.cell M.length), some (.str X), some (.int (X.length : Int)), o3] v (.cell M.length) (M ++ [.obj "Way" ["text", "name", "left", "right"] [a, b, c', d']]) = .nx [some (.cell M.length), some (.str X), some (.int (X.length : Int)), o3] (M ++ [.obj "Way" ["text", "name", "left", "right"] [a, b, v, d']]) := fun o3 a b c' d' v => by
    rw [sfK2_cell list6 (by simp)]; simp [putN]
  have s6 : ∀ (o3 : Option D) (a b c' d' v : D), sfK2 ["Way"] "right" [some (.cell M.length), some (.str X), some (.int (X.length : Int)), o3] v (.cell M.length) (M ++ [.obj "Way" ["text", "name", "left", "right"] [a, b, c', d']]) = .nx [some (.cell M.length), some (.str X), some (.int (X.length : Int)), o3] (M ++ [.obj "Way" ["text", "name", "left", "right"] [a, b, c', v]]) := fun o3 a b c' d' v => by
    rw [sfK2_cell list6 (by simp)]; simp [putN]
  have s7 : ∀ (o3 : Option D) (a b c' d' v : D), sfK2 ["Way"] "leaves" [some (.cell M.length), some (.str X), some (.int (X.length : Int)), o3] v (.cell M.length) (M ++ [.obj "Way" ["text", "name", "left", "right"] [a, b, c', d']]) = .nx [some (.cell M.length), some (.str X), some (.int (X.length : Int)), o3] (M ++ [.obj "Way" ["text", "name", "left", "right", "leaves"] [a, b, c', d', v]]) := fun o3 a b c' d' v => by
    rw [sfK2_cell list6 (by simp)]; simp [putN]
  have f1 : ∀ a b c' d' : D, fldD ["Way"] "left" (.cell M.length) (M ++ [.obj "Way" ["text", "name", "left", "right"] [a, b, c', d']]) = .ok c' (M ++ [.obj "Way" ["text", "name", "left", "right"] [a, b, c', d']]) := fun a b c' d' => fldD_cell list6 (by decide) rfl
  have f2 : ∀ a b c' d' : D, fldD ["Way"] "right" (.cell M.length) (M ++ [.obj "Way" ["text", "name", "left", "right"] [a, b, c', d']]) = .ok d' (M ++ [.obj "Way" ["text", "name", "left", "right"] [a, b, c', d']]) := fun a b c' d' => fldD_cell list6 (by decide) rfl
  have f3 : ∀ M1 : MS, fldD ["Way"] "leaves" l.w M1 = .ok (.tup (l.ws.map D.str)) M1 := fun M1 => by rw [hlw]; exact fldD_obj (by decide) rfl
  have f4 : ∀ M1 : MS, fldD ["Way"] "leaves" r.w M1 = .ok (.tup (r.ws.map D.str)) M1 := fun M1 => by rw [hrw]; exact fldD_obj (by decide) rfl
  have a1 : ∀ M1 : MS, addD (.tup (l.ws.map D.str)) (.tup (r.ws.map D.str)) M1 = .ok (.tup ((T.node l r).ws.map D.str)) M1 := fun M1 => by
    rw [addD_tup (by simp; omega), ← List.map_append]; rfl
  have g0 : ∀ M1 : MS, ixD (.str X) (.int 0) M1 = .ok (.str [40]) M1 := fun M1 => ix_at (i := 0) (by omega) (by rw [← x1]; rfl)
  generalize ((1 + l.txt.length : Nat) : Int) = m at *
  clear hlw hrw
  generalize (T.node l r).ws.map D.str = W at *
  generalize l.ws.map D.str = W1 at *
  generalize r.ws.map D.str = W2 at *
  generalize l.w = lw at *
  generalize r.w = rw' at *
  simp [m_WayD_initD, startD, callK_ap, e1, lenF_str (show X.length ≤ 1000000 by omega), s1, s2, s3, s4, s5, s6, s7, g0, sLo, e2, sd1, c1, c2, i1, i2, f1, f2, f3, f4, a1]
/-- what __init__ makes of a tree's text -/
theorem way_init : ∀ (d : Nat) (t : T), t.ok → t.txt.length ≤ 90000 → t.ws.length ≤ 1000 → t.depth < d → t.depth < 30 → ∀ M : MS, mkT "Way" (R_WayD_initD d) [.str t.txt] M = .ok t.w M
  | 0, _, _, _, _, h, _, _ => absurd h (by omega)
  | d + 1, .leaf w, h, hl, _, _, _, M => way_leaf (G := R_WayD_initD d) h hl M
  | d + 1, .node l r, h, hl, hn, hd, hd30, M => by
    have hl2 : l.txt.length + r.txt.length + 3 ≤ 90000 := by simp [T.txt] at hl; omega
    have hn2 : l.ws.length + r.ws.length ≤ 1000 := by simpa [T.ws] using hn
    exact way_node (G := R_WayD_initD d) h hl hn hd30
      (way_init d l h.1 (by omega) (by omega) (by simp [T.depth] at hd; omega) (by simp [T.depth] at hd30; omega))
      (way_init d r h.2 (by omega) (by omega) (by simp [T.depth] at hd; omega) (by simp [T.depth] at hd30; omega)) M
/-! ### operators on ways -/
section
variable {F : FM} {M M' : MS} {t u : T} {r : D} {x : List Nat} {i : Int} {n : Nat} {g : List D → List D} {ms : MA} {sd : SD} {m : String}
theorem strO_W (h : F [t.w] M = .ok (.str x) M') : call1O "Way" F isStrD [t.w] M = .ok (.str x) M' := by
  obtain ⟨_, _, _, e⟩ := t.w_text
  rw [e] at h ⊢
  exact strO_obj h
theorem lenO_W (h : F [t.w] M = .ok (.int i) M') (hi : 0 ≤ i ∧ i < 2 ^ 63) : call1O "Way" F isLen [t.w] M = .ok (.int i) M' := by
  obtain ⟨_, _, _, e⟩ := t.w_text
  rw [e] at h ⊢
  exact lenO_obj h hi
theorem binO_W (h : F [t.w, u.w] M = .ok r M') : binO "Way" F t.w u.w M = .ok r M' := by
  obtain ⟨_, _, _, e⟩ := t.w_text
  obtain ⟨_, _, _, e'⟩ := u.w_text
  rw [e, e'] at h ⊢
  exact binO_obj h
theorem methK_W (h : (["text", "name", "left", "right", "leaves"] : List String).contains m = false) : methK "Way" m n F g ms sd t.w M = (ms sd M).bind (methK2 n F g t.w) := by
  obtain ⟨_, _, _, e⟩ := t.w_text
  rw [e]
  exact methK_obj h
theorem text_W : fldD ["Way"] "text" t.w M = .ok (.str t.txt) M := by
  obtain ⟨_, _, _, e⟩ := t.w_text
  rw [e]; exact fldD_obj (by decide) rfl
theorem leaves_W : fldD ["Way"] "leaves" t.w M = .ok (.tup (t.ws.map D.str)) M := by
  obtain ⟨_, _, _, e⟩ := t.w_text
  rw [e]; exact fldD_obj (by decide) rfl
theorem left_leaf {w : List Nat} : fldD ["Way"] "left" (T.leaf w).w M = .ok .non M := fldD_obj (by decide) rfl
theorem left_node {l r : T} : fldD ["Way"] "left" (T.node l r).w M = .ok l.w M := fldD_obj (by decide) rfl
theorem right_node {l r : T} : fldD ["Way"] "right" (T.node l r).w M = .ok r.w M := fldD_obj (by decide) rfl
theorem isN_w (t : T) : isN t.w = false := by obtain ⟨_, _, _, z⟩ := t.w_text; rw [z]; rfl
end
theorem wstr_run {M : MS} (t : T) : F_WayD_strD [t.w] M = .ok (.str t.txt) M := by
  have f := text_W (M := M) (t := t)
  unfold F_WayD_strD
  rw [runD_ap]
  generalize t.w = tw at *
  simp [m_WayD_strD, startD, f, strSF]
/-- == of a place is == of what it holds -/
theorem eqD_cellL {neg : Bool} {n : Nat} {ds : List D} {e : D} {M : MS} (hm : M[n]? = some (.lst ds)) : eqD neg (.cell n) e M = eqD neg (.lst ds) e M := by
  have h : pyD M (.cell n) = pyD M (.lst ds) := by
    show (match M[n]? with | some (.lst ds) => (mapO (pyN 29 M) ds).map PyData.list | _ => none) = _
    rw [hm]; rfl
  have e1 : ∀ ds : List D, eqSc (.lst ds) e = none := fun ds => by cases e <;> rfl
  have e2 : eqSc (.cell n) e = none := by cases e <;> rfl
  unfold eqD
  rw [e1, e2]
  simp only [Option.isSome_none, Bool.false_eq_true, if_false]
  unfold eqP
  rw [h]
/-! ### _law_word -/
theorem az_ix {M : MS} {e : Int} (h : 0 ≤ e ∧ e < 26) : ixD (.str (sL "abcdefghijklmnopqrstuvwxyz")) (.int e) M = .ok (.str [97 + e.toNat]) M := by
  obtain ⟨n, rfl⟩ : ∃ n : Nat, e = (n : Int) := ⟨e.toNat, by omega⟩
  have hn : n < 26 := by omega
  refine ix_at (by rw [sLa]; decide) ?_
  rw [sLa, Int.toNat_natCast]
  have : ∀ n, n < 26 → ([97, 98, 99, 100, 101, 102, 103, 104, 105, 106, 107, 108, 109, 110, 111, 112, 113, 114, 115, 116, 117, 118, 119, 120, 121, 122] : List Nat)[n]? = some (97 + n) := by decide
  exact this n hn
theorem menuW : ∀ s, s ∈ ["a", "b", "c", "e", "z", "ab", "ee", "zz", "ez", "abcdef"] → okW (sL s) := by unfold okW; decide +kernel
theorem word_run {M : MS} {n : Nat} {xs : List Int} (hm : M[n]? = some (.lst (xs.map D.int))) (hx : DrawsOk ([14, 6] ++ List.replicate 6 26) xs) : ∃ w, F_l_word [.cell n] M = .ok (.str w) M ∧ okW w := by
  obtain ⟨d0, d1, es, rfl⟩ : ∃ d0 d1 es, xs = d0 :: d1 :: es := by
    have := hx.1
    match xs, this with
    | d0 :: d1 :: es, _ => exact ⟨_, _, _, rfl⟩
  have hel : es.length = 6 := by have := hx.1; simpa using this
  have b0 := hx.2 0 d0 14 rfl rfl
  have b1 := hx.2 1 d1 6 rfl rfl
  have be : ∀ e, e ∈ es → 0 ≤ e ∧ e < 26 := fun e he => by
    obtain ⟨j, hj⟩ := List.getElem?_of_mem he
    have hj6 : j < 6 := by have := (List.getElem?_eq_some_iff.mp hj).1; omega
    exact hx.2 (j + 2) e 26 (by simpa using hj) (by
      have : ∀ j, j < 6 → (([14, 6] ++ List.replicate 6 26 : List Int))[j + 2]? = some 26 := by decide
      exact this j hj6)
  have x0 : ixD (.cell n) (.int 0) M = .ok (.int d0) M := ixD_cell hm (atI_of (j := 0) rfl)
  have x1 : ixD (.cell n) (.int 1) M = .ok (.int d1) M := ixD_cell hm (atI_of (j := 1) rfl)
  by_cases h : d0 < 10
  · obtain ⟨w, q, hw⟩ : ∃ w, ixD (.lst [.str (sL "a"), .str (sL "b"), .str (sL "c"), .str (sL "e"), .str (sL "z"), .str (sL "ab"), .str (sL "ee"), .str (sL "zz"), .str (sL "ez"), .str (sL "abcdef")]) (.int d0) M = .ok (.str w) M ∧ okW w := by
      rcases (show d0 = 0 ∨ d0 = 1 ∨ d0 = 2 ∨ d0 = 3 ∨ d0 = 4 ∨ d0 = 5 ∨ d0 = 6 ∨ d0 = 7 ∨ d0 = 8 ∨ d0 = 9 by omega) with rfl | rfl | rfl | rfl | rfl | rfl | rfl | rfl | rfl | rfl
      · exact ⟨_, ixD_lst (atI_of (j := 0) rfl), menuW _ (by decide)⟩
      · exact ⟨_, ixD_lst (atI_of (j := 1) rfl), menuW _ (by decide)⟩
      · exact ⟨_, ixD_lst (atI_of (j := 2) rfl), menuW _ (by decide)⟩
      · exact ⟨_, ixD_lst (atI_of (j := 3) rfl), menuW _ (by decide)⟩
      · exact ⟨_, ixD_lst (atI_of (j := 4) rfl), menuW _ (by decide)⟩
      · exact ⟨_, ixD_lst (atI_of (j := 5) rfl), menuW _ (by decide)⟩
      · exact ⟨_, ixD_lst (atI_of (j := 6) rfl), menuW _ (by decide)⟩
      · exact ⟨_, ixD_lst (atI_of (j := 7) rfl), menuW _ (by decide)⟩
      · exact ⟨_, ixD_lst (atI_of (j := 8) rfl), menuW _ (by decide)⟩
      · exact ⟨_, ixD_lst (atI_of (j := 9) rfl), menuW _ (by decide)⟩
    refine ⟨w, ?_, hw⟩
    unfold F_l_word
    rw [runD_ap]
    simp [m_l_word, startD, lstK_ap, x0, h, q]
  · obtain ⟨k, rfl⟩ : ∃ k : Nat, d1 = (k : Int) := ⟨d1.toNat, by omega⟩
    have hk : k < 6 := by omega
    have sl : sliceD (.cell n) (some 2) (some (3 + (k : Int))) M = .ok (.lst ((es.take (k + 1)).map D.int)) M := by
      rw [sliceD_cell hm, show (2 : Int) = ((2 : Nat) : Int) from rfl, show (3 + (k : Int)) = ((3 + k : Nat) : Int) by omega, cutL_mid _ _ _ (by simp; omega) (by omega), List.map_take]
      congr 3
      omega
    have hl : (es.take (k + 1)).length = k + 1 := by rw [List.length_take]; omega
    have e := lc_map (te := e_l_word_1) (i := 2) (w := [some (.cell n), some (.lst [.str (sL "a"), .str (sL "b"), .str (sL "c"), .str (sL "e"), .str (sL "z"), .str (sL "ab"), .str (sL "ee"), .str (sL "zz"), .str (sL "ez"), .str (sL "abcdef")]), none]) (M := M) (g := D.int) (f := fun e => D.str [97 + e.toNat]) (xs := es.take (k + 1)) (by omega) (fun e he => by
      have := az_ix (M := M) (be e (List.mem_of_mem_take he))
      simp [e_l_word_1, this])
    have em : (es.take (k + 1)).map (fun e => D.str [97 + e.toNat]) = ((es.take (k + 1)).map fun e => 97 + e.toNat).map fun c => D.str [c] := by rw [List.map_map]; rfl
    rw [em] at e
    have jc := join_chars (M := M) (xs := (es.take (k + 1)).map fun e => 97 + e.toNat) (by rw [List.length_map]; omega)
    have tv : tyvD M "str" (.str []) = true := rfl
    refine ⟨(es.take (k + 1)).map fun e => 97 + e.toNat, ?_, ?_, ?_, ?_⟩
    · unfold F_l_word
      rw [runD_ap]
      generalize (es.take (k + 1)).map (fun e => 97 + e.toNat) = w at *
      generalize w.map (fun c => D.str [c]) = wd at *
      generalize (es.take (k + 1)).map D.int = ei at *
      generalize (k : Int) = K at *
      simp [m_l_word, startD, lstK_ap, x0, x1, h, sl, wipeD, e, bmK_ap tv, jc]
    · rw [List.length_map]; omega
    · rw [List.length_map]; omega
    · intro c hc
      obtain ⟨e, he, rfl⟩ := List.mem_map.mp hc
      have := be e (List.mem_of_mem_take he)
      omega
theorem weq_run {M : MS} {t u : T} : F_WayD_eqD [t.w, u.w] M = .ok (.bl (t.txt == u.txt)) M := by
  have f1 := text_W (M := M) (t := t)
  have f2 := text_W (M := M) (t := u)
  have hi : isiF csI (tblL tblI) [u.w, .glo "Way"] M = .ok (.bl true) M := by
    obtain ⟨_, _, _, e⟩ := u.w_text
    rw [e]; rfl
  unfold F_WayD_eqD
  rw [runD_ap]
  generalize t.w = tw at *
  generalize u.w = uw at *
  simp [m_WayD_eqD, startD, hi, f1, f2]
theorem eqO_W {M : MS} {bs : List String} {t u : T} : eqO "Way" (okE "Way" bs) F_WayD_eqD t.w u.w M = .ok (.bl (t.txt == u.txt)) M := by
  have r := weq_run (M := M) (t := t) (u := u)
  obtain ⟨_, _, _, e⟩ := t.w_text
  obtain ⟨_, _, _, e'⟩ := u.w_text
  rw [e, e'] at r ⊢
  exact eqO_obj isTN_obj r
/-! ### trees compared -/
theorem T.pl : ∀ (t : T) (n : Nat), t.ok → t.depth ≤ n → plN n t.d
  | .leaf w, n, h, _ => by
    show plN n (.str w)
    rw [plN_str]
    exact fun c hc => by have := h.2.2 c hc; omega
  | .node l r, 0, h, hd => by simp [T.depth] at hd
  | .node l r, n + 1, h, hd => by
    show plN (n + 1) (.tup [l.d, r.d])
    rw [plN_tup, plNs_cons, plNs_cons, plNs_nil]
    simp [T.depth] at hd
    exact ⟨T.pl l n h.1 (by omega), T.pl r n h.2 (by omega), trivial⟩
def StopR (r : List Nat) : Prop := r = [] ∨ ∃ c s, r = c :: s ∧ (c = 32 ∨ c = 41)
theorem word_end : ∀ {v w r s : List Nat}, (∀ c, c ∈ v → 97 ≤ c ∧ c ≤ 122) → (∀ c, c ∈ w → 97 ≤ c ∧ c ≤ 122) → StopR r → StopR s → v ++ r = w ++ s → v = w ∧ r = s
  | [], [], r, s, _, _, _, _, e => ⟨rfl, e⟩
  | [], c :: w, r, s, _, hw, hr, _, e => by
    have h1 := hw c List.mem_cons_self
    rcases hr with rfl | ⟨d, r', rfl, hd⟩
    · cases e
    · simp at e
      omega
  | c :: v, [], r, s, hv, _, _, hs, e => by
    have h1 := hv c List.mem_cons_self
    rcases hs with rfl | ⟨d, s', rfl, hd⟩
    · cases e
    · simp at e
      omega
  | c :: v, d :: w, r, s, hv, hw, hr, hs, e => by
    simp only [List.cons_append, List.cons.injEq] at e
    obtain ⟨e1, e2⟩ := word_end (fun x hx => hv x (List.mem_cons_of_mem _ hx)) (fun x hx => hw x (List.mem_cons_of_mem _ hx)) hr hs e.2
    exact ⟨by rw [e.1, e1], e2⟩
theorem T.txt_inj : ∀ (t u : T) (r s : List Nat), t.ok → u.ok → StopR r → StopR s → t.txt ++ r = u.txt ++ s → t = u ∧ r = s
  | .leaf v, .leaf w, r, s, ht, hu, hr, hs, e => by
    obtain ⟨e1, e2⟩ := word_end ht.2.2 hu.2.2 hr hs e
    exact ⟨by rw [e1], e2⟩
  | .leaf v, .node a b, r, s, ht, hu, hr, hs, e => by
    obtain ⟨h1, _, h2⟩ := ht
    match v, h1, h2 with
    | c :: v, _, h2 =>
      have := h2 c List.mem_cons_self
      simp [T.txt] at e
      omega
  | .node a b, .leaf v, r, s, hu, ht, hr, hs, e => by
    obtain ⟨h1, _, h2⟩ := ht
    match v, h1, h2 with
    | c :: v, _, h2 =>
      have := h2 c List.mem_cons_self
      simp [T.txt] at e
      omega
  | .node a b, .node a' b', r, s, ht, hu, hr, hs, e => by
    simp only [T.txt, List.cons_append, List.append_assoc, List.cons.injEq, true_and, List.nil_append] at e
    obtain ⟨e1, e2⟩ := T.txt_inj a a' _ _ ht.1 hu.1 (.inr ⟨_, _, rfl, .inl rfl⟩) (.inr ⟨_, _, rfl, .inl rfl⟩) e
    simp only [List.cons.injEq, true_and] at e2
    obtain ⟨e3, e4⟩ := T.txt_inj b b' _ _ ht.2 hu.2 (.inr ⟨_, _, rfl, .inr rfl⟩) (.inr ⟨_, _, rfl, .inr rfl⟩) e2
    simp only [List.cons.injEq, true_and] at e4
    exact ⟨by rw [e1, e3], e4⟩
theorem T.txt_eq {t u : T} (ht : t.ok) (hu : u.ok) : t.txt = u.txt ↔ t = u := ⟨fun e => (T.txt_inj t u [] [] ht hu (.inl rfl) (.inl rfl) (by rw [e])).1, fun e => by rw [e]⟩
theorem T.eqv : ∀ t u : T, eqvD t.d u.d = true ↔ t = u
  | .leaf v, .leaf w => by
    show eqvD (.str v) (.str w) = true ↔ _
    rw [eqvD_str]
    simp
  | .leaf v, .node a b => by
    show eqvD (.str v) (.tup [a.d, b.d]) = true ↔ _
    simp [eqvD, toP, PyData.eqv]
  | .node a b, .leaf v => by
    show eqvD (.tup [a.d, b.d]) (.str v) = true ↔ _
    simp [eqvD, toP, PyData.eqv]
  | .node a b, .node a' b' => by
    have h : eqvD (.tup [a.d, b.d]) (.tup [a'.d, b'.d]) = (eqvD a.d a'.d && (eqvD b.d b'.d && true)) := by
      show PyData.eqv _ _ = _
      rw [toP, toP, PyData.eqv]
      show eqvDs [a.d, b.d] [a'.d, b'.d] = _
      rw [eqvDs_cons, eqvDs_cons, eqvDs_nil]
    show eqvD (.tup [a.d, b.d]) (.tup [a'.d, b'.d]) = true ↔ _
    rw [h, Bool.and_true, Bool.and_eq_true, T.eqv a a', T.eqv b b']
    simp
theorem eqD_tree {neg : Bool} {M : MS} {t u : T} (ht : t.ok) (hu : u.ok) (dt : t.depth ≤ 29) (du : u.depth ≤ 29) : eqD neg t.d u.d M = .ok (.bl ((t.txt == u.txt) != neg)) M := by
  rw [eqD_plN 29 (by omega) (t.pl 29 ht dt) (u.pl 29 hu du)]
  have : eqvD t.d u.d = (t.txt == u.txt) := by
    rw [Bool.eq_iff_iff, T.eqv, beq_iff_eq, T.txt_eq ht hu]
  rw [this]
/-- a comprehension with one test over a typed list that changes nothing -/
theorem lc_filt {β : Type} {g : β → D} {f : β → D} {p : β → Bool} {i : Nat} {w : SD} {tt : MB} {te : ME} {M : MS} : ∀ (ys : List β) (acc : List D), acc.length + ys.length ≤ 1000000 → (∀ y, y ∈ ys → tt (w.set i (some (g y))) M = .ok (p y) M ∧ te (w.set i (some (g y))) M = .ok (f y) M) →
    lcGo (fun _ => True) (nameG i) tt te w (ys.map g) acc M = .ok (acc ++ (ys.filter p).map f) M
  | [], acc, _, _ => by simp [lcGo]
  | y :: ys, acc, hl, h => by
    obtain ⟨h1, h2⟩ := h y List.mem_cons_self
    rw [List.map_cons]
    unfold lcGo
    rw [if_pos trivial, nameG_ap]
    dsimp only
    rw [h1, Res.ne_ok, Res.bind_ok]
    cases hp : p y with
    | false =>
      rw [if_neg Bool.false_ne_true, lc_filt ys acc (by simp at hl ⊢; omega) fun z hz => h z (List.mem_cons_of_mem _ hz), List.filter_cons, if_neg (by simp [hp])]
    | true =>
      rw [if_pos rfl, h2, Res.ne_ok, Res.bind_ok, if_pos (by simp at hl; omega), lc_filt ys (acc ++ [f y]) (by simp at hl ⊢; omega) fun z hz => h z (List.mem_cons_of_mem _ hz), List.filter_cons, if_pos hp]
      simp
theorem lc_filtC {β : Type} {chk : MS → Prop} {g : β → D} {f : β → D} {p : β → Bool} {i : Nat} {w : SD} {tt : MB} {te : ME} {M : MS} (hc : chk M) : ∀ (ys : List β) (acc : List D), acc.length + ys.length ≤ 1000000 → (∀ y, y ∈ ys → tt (w.set i (some (g y))) M = .ok (p y) M ∧ (p y = true → te (w.set i (some (g y))) M = .ok (f y) M)) →
    lcGo chk (nameG i) tt te w (ys.map g) acc M = .ok (acc ++ (ys.filter p).map f) M
  | [], acc, _, _ => by simp [lcGo, hc]
  | y :: ys, acc, hl, h => by
    obtain ⟨h1, h2⟩ := h y List.mem_cons_self
    rw [List.map_cons]
    unfold lcGo
    rw [if_pos hc, nameG_ap]
    dsimp only
    rw [h1, Res.ne_ok, Res.bind_ok]
    cases hp : p y with
    | false =>
      rw [if_neg Bool.false_ne_true, lc_filtC hc ys acc (by simp at hl ⊢; omega) fun z hz => h z (List.mem_cons_of_mem _ hz), List.filter_cons, if_neg (by simp [hp])]
    | true =>
      rw [if_pos rfl, h2 hp, Res.ne_ok, Res.bind_ok, if_pos (by simp at hl; omega), lc_filtC hc ys (acc ++ [f y]) (by simp at hl ⊢; omega) fun z hz => h z (List.mem_cons_of_mem _ hz), List.filter_cons, if_pos hp]
      simp
theorem wlen_run {M : MS} (t : T) : F_WayD_lenD [t.w] M = .ok (.int t.ws.length) M := by
  have f := leaves_W (M := M) (t := t)
  have hl : ((t.ws.map D.str).length : Int) = t.ws.length := by simp
  unfold F_WayD_lenD
  rw [runD_ap]
  generalize t.w = tw at *
  generalize t.ws.map D.str = W at *
  simp [m_WayD_lenD, startD, f, hl]
theorem lleaves_run {M : MS} : ∀ (d : Nat) (t : T), t.depth < d → t.ws.length ≤ 1000 → R_l_leaves d [t.d] M = .ok (.lst (t.ws.map D.str)) M
  | 0, _, h, _ => absurd h (by omega)
  | d + 1, .leaf w, _, _ => by
    show runD 1 (m_l_leaves (R_l_leaves d)) [.str w] M = _
    rw [runD_ap]
    simp [m_l_leaves, startD, T.ws, lstK_ap]
  | d + 1, .node l r, h, hl => by
    simp [T.depth] at h
    have hl2 : l.ws.length + r.ws.length ≤ 1000 := by simpa [T.ws] using hl
    have e1 := lleaves_run (M := M) d l (by omega) (by omega)
    have e2 := lleaves_run (M := M) d r (by omega) (by omega)
    show runD 1 (m_l_leaves (R_l_leaves d)) [.tup [l.d, r.d]] M = _
    rw [runD_ap]
    have q0 : ixD (.tup [l.d, r.d]) (.int 0) M = .ok l.d M := ixD_tup (atI_of (j := 0) rfl)
    have q1 : ixD (.tup [l.d, r.d]) (.int 1) M = .ok r.d M := ixD_tup (atI_of (j := 1) rfl)
    have a : addD (.lst (l.ws.map D.str)) (.lst (r.ws.map D.str)) M = .ok (.lst ((T.node l r).ws.map D.str)) M := by
      rw [addD_lst (by simp; omega), ← List.map_append]
      rfl
    generalize (T.node l r).ws.map D.str = z1 at *
    generalize r.ws.map D.str = z2 at *
    generalize l.ws.map D.str = z3 at *
    generalize r.d = z4 at *
    generalize l.d = z5 at *
    simp [m_l_leaves, startD, callK_ap, q0, q1, e1, e2, a]
theorem get_app {M L : MS} {n : Nat} {o : MO} (h : M[n]? = some o) : (M ++ L)[n]? = some o := by rw [List.getElem?_append_left (List.getElem?_eq_some_iff.mp h).1]; exact h
theorem eqO_S {M : MS} {bs : List String} {t : T} {x : List Nat} (h : "str" ∈ bs) : eqO "Way" (okE "Way" bs) F_WayD_eqD t.w (.str x) M = .ok (.bl false) M := by
  have r : F_WayD_eqD [t.w, .str x] M = .ok (.bl false) M := by
    have hi : isiF csI (tblL tblI) [.str x, .glo "Way"] M = .ok (.bl false) M := rfl
    unfold F_WayD_eqD
    rw [runD_ap]
    generalize t.w = tw at *
    simp [m_WayD_eqD, startD, hi]
  obtain ⟨_, _, _, e⟩ := t.w_text
  rw [e] at r ⊢
  exact eqO_obj (isTN_str h) r
theorem neO_S {M : MS} {bs : List String} {t : T} {x : List Nat} (h : "str" ∈ bs) : neO "Way" (okE "Way" bs) F_WayD_eqD t.w (.str x) M = .ok (.bl true) M := by
  have r : F_WayD_eqD [t.w, .str x] M = .ok (.bl false) M := by
    have hi : isiF csI (tblL tblI) [.str x, .glo "Way"] M = .ok (.bl false) M := rfl
    unfold F_WayD_eqD
    rw [runD_ap]
    generalize t.w = tw at *
    simp [m_WayD_eqD, startD, hi]
  obtain ⟨_, _, _, e⟩ := t.w_text
  rw [e] at r ⊢
  exact neO_obj (isTN_str h) r
theorem eqO_L {M : MS} {bs : List String} {t : T} {ds : List D} (h : "list" ∈ bs) : eqO "Way" (okE "Way" bs) F_WayD_eqD t.w (.lst ds) M = .ok (.bl false) M := by
  have r : F_WayD_eqD [t.w, .lst ds] M = .ok (.bl false) M := by
    have hi : isiF csI (tblL tblI) [.lst ds, .glo "Way"] M = .ok (.bl false) M := rfl
    unfold F_WayD_eqD
    rw [runD_ap]
    generalize t.w = tw at *
    simp [m_WayD_eqD, startD, hi]
  obtain ⟨_, _, _, e⟩ := t.w_text
  rw [e] at r ⊢
  exact eqO_obj (by unfold isTN okE; simp [tnD, h]) r
theorem isi_W {M : MS} {t : T} : isiF csI (tblL tblI) [t.w, .glo "Way"] M = .ok (.bl true) M := by
  obtain ⟨_, _, _, e⟩ := t.w_text
  rw [e]
  rfl
theorem name_leaf {M : MS} {w : List Nat} : fldD ["Way"] "name" (T.leaf w).w M = .ok (.str w) M := fldD_obj (by decide) rfl
theorem right_leaf {M : MS} {w : List Nat} : fldD ["Way"] "right" (T.leaf w).w M = .ok .non M := fldD_obj (by decide) rfl
theorem name_node {M : MS} {l r : T} : fldD ["Way"] "name" (T.node l r).w M = .ok (.str []) M := fldD_obj (by decide) rfl
theorem tx_of {M : MS} {v : T} (hv : v.ok) (hl : v.ws.length ≤ 20) : F_l_text [v.d] M = .ok (.str v.txt) M := by
  have h1 := v.txt_len hv
  have h2 := v.depth_lt
  exact ltext_run (M := M) 30 v hv (by omega) (by omega)
theorem wy_of {M : MS} {v : T} (hv : v.ok) (hl : v.ws.length ≤ 20) : mkT "Way" F_WayD_initD [.str v.txt] M = .ok v.w M := by
  have h1 := v.txt_len hv
  have h2 := v.depth_lt
  exact way_init 30 v hv (by omega) (by omega) (by omega) (by omega) M
theorem lv_of {M : MS} {v : T} (hl : v.ws.length ≤ 20) : F_l_leaves [v.d] M = .ok (.lst (v.ws.map D.str)) M := by
  have h2 := v.depth_lt
  exact lleaves_run (M := M) 30 v (by omega) (by omega)
theorem ws_okC {t : T} (h : t.ok) : ∀ w, w ∈ t.ws → okC w := fun w hw => T.okC (.leaf w) (t.ok_ws h w hw)
theorem eq_ws {M : MS} {neg : Bool} {xs : List (List Nat)} (h : ∀ x, x ∈ xs → okC x) : eqD neg (.lst (xs.map D.str)) (.lst (xs.map D.str)) M = .ok (.bl (true != neg)) M := eqD_refl (by
  rw [plN_lst]
  exact plNs_map fun x hx => by rw [plN_str]; exact h x hx)
theorem own_W {M : MS} {t : T} {m : ME} {sd : SD} (h : m sd M = .ok t.w M) : ownI "Way" "leaves" m sd M = .ok ⟨t.ws.map D.str, fun _ => True⟩ M := by
  obtain ⟨n, l, r, e⟩ := t.w_text
  unfold ownI
  rw [h, Res.bind_ok, e]
  rfl
theorem lis_run {M : MS} : ∀ (d : Nat) (t : T), t.ok → t.depth < d → t.ws.length ≤ 20 → R_l_is d [t.w, t.d] M = .ok (.bl true) M
  | 0, _, _, h, _ => absurd h (by omega)
  | d + 1, t, hk, hd, hl => by
    show runD 3 (m_l_is (R_l_is d)) [t.w, t.d] M = _
    rw [runD_ap, show startD 3 [t.w, t.d] = [some t.w, some t.d, none] from rfl]
    have a1 := isi_W (M := M) (t := t)
    have a2 := strO_W (t := t) (wstr_run (M := M) t)
    have a3 := tx_of (M := M) hk hl
    have a4 := leaves_W (M := M) (t := t)
    have a5 : isiF csI (tblL tblI) [.tup (t.ws.map D.str), .ty "tuple"] M = .ok (.bl true) M := rfl
    have a6 : listF [.tup (t.ws.map D.str)] M = .ok (.lst (t.ws.map D.str)) M := rfl
    have a7 := lv_of (M := M) hl
    have a8 := eq_ws (M := M) (neg := true) (ws_okC hk)
    have a9 := own_W (M := M) (t := t) (m := nameE 0) (sd := [some t.w, some t.d, none]) (by simp)
    have b1 := lc_map (te := nameE 2) (i := 2) (w := [some t.w, some t.d, none]) (M := M) (g := D.str) (f := D.str) (xs := t.ws) (by omega) (fun w hw => by simp)
    have b2 := lenO_W (t := t) (wlen_run (M := M) t) ⟨by omega, by omega⟩
    have b3 : lenF [.lst (t.ws.map D.str)] M = .ok (.int (t.ws.length : Int)) M := by rw [lenF_lst, List.length_map]
    have b4 := wy_of (M := M) hk hl
    have b5 := eqO_W (M := M) (bs := ["str", "list"]) (t := t) (u := t)
    have z0 : (ifS (orB (notB (truB (appE (isiF csI (tblL tblI)) (consA (nameE 0) (consA (constE (.glo "Way")) nilA))))) (orB (valB (binE (eqD true) (appE (call1O "Way" F_WayD_strD isStrD) (consA (nameE 0) nilA)) (callE 1 F_l_text (· ++ []) (consA (nameE 1) nilA)))) (notB (truB (appE (isiF csI (tblL tblI)) (consA (unE (fldD ["Way"] "leaves") (nameE 0)) (consA (constE (.ty "tuple")) nilA))))))) (retS (constE (.bl false))) passS) [some t.w, some t.d, none] M = .nx [some t.w, some t.d, none] M := by
      clear b5 b4 b2 a9 b1
      generalize t.w = tw at *
      generalize t.d = td at *
      generalize t.txt = tx at *
      generalize t.ws.map D.str = ws at *
      simp [a1, a2, a3, a4, a5, callK_ap]
    have z1 : (ifS (orB (valB (binE (eqD true) (appE listF (consA (unE (fldD ["Way"] "leaves") (nameE 0)) nilA)) (callE 1 F_l_leaves (· ++ []) (consA (nameE 1) nilA)))) (valB (binE (eqD true) (lcE (ownI "Way" "leaves" (nameE 0)) (nameG 2) yesB (nameE 2) [2]) (callE 1 F_l_leaves (· ++ []) (consA (nameE 1) nilA))))) (retS (constE (.bl false))) passS) [some t.w, some t.d, none] M = .nx [some t.w, some t.d, none] M := by
      generalize t.w = tw at *
      generalize t.d = td at *
      generalize t.txt = tx at *
      generalize t.ws.map D.str = ws at *
      simp [a4, a6, a7, a8, a9, callK_ap, wipeD, b1]
    have z2 : (ifS (orB (valB (binE (eqD true) (appE (call1O "Way" F_WayD_lenD isLen) (consA (nameE 0) nilA)) (appE lenF (consA (callE 1 F_l_leaves (· ++ []) (consA (nameE 1) nilA)) nilA)))) (notB (valB (binE (eqO "Way" (okE "Way" ["str", "list"]) F_WayD_eqD) (nameE 0) (callE 1 (mkT "Way" F_WayD_initD) (· ++ []) (consA (callE 1 F_l_text (· ++ []) (consA (nameE 1) nilA)) nilA)))))) (retS (constE (.bl false))) passS) [some t.w, some t.d, none] M = .nx [some t.w, some t.d, none] M := by
      generalize t.w = tw at *
      generalize t.d = td at *
      generalize t.txt = tx at *
      generalize t.ws.map D.str = ws at *
      generalize (t.ws.length : Int) = n at *
      simp [b2, a7, b3, a3, b4, b5, callK_ap]
    unfold m_l_is
    rw [seqS_ap, z0, SRes.seq_nx, seqS_ap, z1, SRes.seq_nx, seqS_ap, z2, SRes.seq_nx]
    clear z0 z1 z2 a1 a2 a3 a4 a5 a6 a7 a8 a9 b1 b2 b3 b4 b5
    cases t with
    | leaf w =>
      have c1 := name_leaf (M := M) (w := w)
      have c2 := left_leaf (M := M) (w := w)
      have c3 := right_leaf (M := M) (w := w)
      have c4 : isiF csI (tblL tblI) [.str w, .ty "str"] M = .ok (.bl true) M := rfl
      rw [show (T.leaf w).d = .str w from rfl]
      generalize (T.leaf w).w = tw at *
      simp [c1, c2, c3, c4, isN]
    | node l r =>
      have c1 := name_node (M := M) (l := l) (r := r)
      have c2 := left_node (M := M) (l := l) (r := r)
      have c3 := right_node (M := M) (l := l) (r := r)
      have c4 : isiF csI (tblL tblI) [.tup [l.d, r.d], .ty "str"] M = .ok (.bl false) M := rfl
      have i0 : ixD (.tup [l.d, r.d]) (.int 0) M = .ok l.d M := ixD_tup (atI_of (j := 0) rfl)
      have i1 : ixD (.tup [l.d, r.d]) (.int 1) M = .ok r.d M := ixD_tup (atI_of (j := 1) rfl)
      have r1 := lis_run (M := M) d l hk.1 (by simp [T.depth] at hd; omega) (by simp [T.ws] at hl; omega)
      have r2 := lis_run (M := M) d r hk.2 (by simp [T.depth] at hd; omega) (by simp [T.ws] at hl; omega)
      rw [show (T.node l r).d = .tup [l.d, r.d] from rfl]
      generalize (T.node l r).w = tw at *
      generalize l.w = lw at *
      generalize r.w = rw' at *
      generalize l.d = ld at *
      generalize r.d = rd at *
      simp [c1, c2, c3, c4, i0, i1, callK_ap, r1, r2]

/-! ### the law -/
def LI (ns : List Int) (hd : List Int) (s1 : Option D) (k : Nat) (sd : SD) (M : MS) : Prop := ∃ (ws : List (List Nat)) (o3 o4 : Option D), sd = [some (.flst (ns.map D.int)), s1, some (.cell 1), o3, o4, none, none] ∧ M[0]? = some (.lst (hd.map D.int)) ∧ M[1]? = some (.lst (ws.map D.str)) ∧ ws.length = k ∧ ∀ w, w ∈ ws → okW w
theorem loop1 {ns hd : List Int} {s1 : Option D} {k : Nat} {sd : SD} {M : MS} (hk : k < 1000) (I : LI ns hd s1 k sd M) : ∃ sd' M', b_law_1 (sd.set 3 (some (.int (k : Int)))) M = .nx sd' M' ∧ LI ns hd s1 (k + 1) sd' M' := by
  obtain ⟨ws, o3, o4, rfl, hM, hM1, hl, hw⟩ := I
  have hlen : 1 < M.length := (List.getElem?_eq_some_iff.mp hM1).1
  obtain ⟨c, hc⟩ := cell_run ns (2 + (k : Int)) (by omega) M
  obtain ⟨xs, hd', hx⟩ := draws_run (M := M) (c := c) (sizes := [14, 6] ++ List.replicate 6 26) (by decide) (by decide)
  obtain ⟨w, ew, hok⟩ := word_run (M := M ++ [.lst (xs.map D.int)]) (n := M.length) get_last hx
  have g1 : (M ++ [MO.lst (xs.map D.int)])[1]? = some (.lst (ws.map D.str)) := by rw [List.getElem?_append_left hlen]; exact hM1
  have g0 : (M ++ [MO.lst (xs.map D.int)])[0]? = some (.lst (hd.map D.int)) := by rw [List.getElem?_append_left (by omega)]; exact hM
  have ap : appendF (.cell 1) [.str w] (M ++ [.lst (xs.map D.int)]) = .ok .non ((M ++ [MO.lst (xs.map D.int)]).set 1 (.lst ((ws ++ [w]).map D.str))) := by
    unfold appendF
    simp only [g1]
    rw [if_pos (by rw [List.length_map]; omega), List.map_append]
    rfl
  have ty : tyvD (M ++ [.lst (xs.map D.int)]) "list" (.cell 1) = true := by unfold tyvD; simp [g1]
  have a2 : addD (.lst [.int 14, .int 6]) (.lst (List.replicate 6 (.int 26))) M = .ok (.lst (([14, 6] ++ List.replicate 6 26 : List Int).map D.int)) M := by
    rw [addD_lst (by simp)]; rfl
  have m2 : mulD (.lst [.int 26]) (.int 6) M = .ok (.lst (List.replicate 6 (.int 26))) M := by
    rw [mulD_lst ⟨by omega, by omega, by decide⟩]; rfl
  refine ⟨[some (.flst (ns.map D.int)), s1, some (.cell 1), some (.int (k : Int)), some (.cell M.length), none, none], (M ++ [MO.lst (xs.map D.int)]).set 1 (.lst ((ws ++ [w]).map D.str)), ?_, ws ++ [w], _, _, rfl, ?_, ?_, by simp [hl], ?_⟩
  · have hd' : F_l_draws [.int c, .lst (([14, 6] ++ List.replicate 6 26 : List Int).map D.int)] M = .ok (.cell M.length) (M ++ [.lst (xs.map D.int)]) := hd'
    generalize (M ++ [MO.lst (xs.map D.int)]).set 1 (.lst ((ws ++ [w]).map D.str)) = M3 at *
    generalize M ++ [MO.lst (xs.map D.int)] = M2 at *
    generalize (([14, 6] ++ List.replicate 6 26 : List Int).map D.int) = sz at *
    generalize List.replicate 6 (D.int 26) = s6 at *
    generalize (k : Int) = K at *
    simp [b_law_1, callK_ap, hc, lstK_ap, m2, a2, hd', ew, bmK_ap ty, ap]
  · rw [List.getElem?_set_ne (by decide)]; exact g0
  · rw [List.getElem?_set_self (by simp; omega)]
  · intro v hv
    rw [List.mem_append, List.mem_singleton] at hv
    rcases hv with hv | rfl
    · exact hw v hv
    · exact hok
theorem law_plain (ns : List Int) (hn : ns.length ≤ 63) : ∃ M', F_law [.flst (ns.map D.int)] [] = .ok (.bl true) M' := by
  obtain ⟨c, e1⟩ := cell_run ns 0 (by decide) []
  obtain ⟨hs, e2, d2⟩ := draws_run (M := []) (c := c) (sizes := [20]) (by decide) (by decide)
  simp only [List.map_cons, List.map_nil, List.nil_append, List.length_nil] at e2
  obtain ⟨x0, _, x0e, p0, q0⟩ := d2.ix (M := [.lst (hs.map D.int)]) (n := 0) rfl 0 20 rfl
  have x0e : ixD (.cell 0) (.int 0) [.lst (hs.map D.int)] = .ok (.int x0) [.lst (hs.map D.int)] := x0e
  obtain ⟨many, em⟩ : ∃ n : Nat, 1 + x0 = (n : Int) := ⟨(1 + x0).toNat, by omega⟩
  have z0 : (setS 1 (binE addD (constE (.int 1)) (binE ixD (callE 2 F_l_draws (· ++ []) (consA (callE 2 F_l_cell (· ++ []) (consA (nameE 0) (consA (constE (.int 0)) nilA))) (consA (lstE (consA (constE (.int 20)) nilA)) nilA))) (constE (.int 0))))) [some (.flst (ns.map D.int)), none, none, none, none, none, none] [] = .nx [some (.flst (ns.map D.int)), some (.int (many : Int)), none, none, none, none, none] [.lst (hs.map D.int)] := by
    have lk := lstK_ap (ds := [.int 20]) (M := []) (by simp)
    generalize D.flst (ns.map D.int) = sn at *
    generalize [MO.lst (hs.map D.int)] = M1 at *
    simp [callK_ap, e1, lk, e2, x0e, em]
  have z1 : (setS 2 (celE nilA)) [some (.flst (ns.map D.int)), some (.int (many : Int)), none, none, none, none, none] [.lst (hs.map D.int)] = .nx [some (.flst (ns.map D.int)), some (.int (many : Int)), some (.cell 1), none, none, none, none] [.lst (hs.map D.int), .lst []] := by
    generalize D.flst (ns.map D.int) = sn at *
    simp [celK_ap]
  obtain ⟨sd3, M3, e3, ws, o3, o4, rfl, hM3, hM31, hwl, hwo⟩ := forGo_go (chk := fun _ => True) (g := nameG 3) (body := b_law_1) (fun k sd M => LI ns hs (some (.int (many : Int))) k sd M) (intsI (rangeN 0 (many : Int))).ds 0 [some (.flst (ns.map D.int)), some (.int (many : Int)), some (.cell 1), none, none, none, none] [.lst (hs.map D.int), .lst []] ⟨[], none, none, rfl, rfl, rfl, rfl, fun w hw => by cases hw⟩
    (fun i d sd M hi hI => by
      obtain ⟨rfl, hi2⟩ := get_rangeN hi
      rw [Int.zero_add]
      rw [Nat.zero_add] at hI ⊢
      obtain ⟨sd', M', eb, I'⟩ := loop1 (by omega) hI
      refine ⟨trivial, sd.set 3 (some (.int (i : Int))), ?_, sd', M', .inl eb, I'⟩
      obtain ⟨_, _, _, rfl, _⟩ := hI
      rfl) (fun _ _ _ => trivial)
  have hwl : ws.length = many := by rw [hwl, len_rangeN]; omega
  have z2 : (forS (range1I (consA (nameE 1) nilA)) (nameG 3) b_law_1) [some (.flst (ns.map D.int)), some (.int (many : Int)), some (.cell 1), none, none, none, none] [.lst (hs.map D.int), .lst []] = .nx [some (.flst (ns.map D.int)), some (.int (many : Int)), some (.cell 1), o3, o4, none, none] M3 := by
    have rr : r1K [.int (many : Int)] [.lst (hs.map D.int), .lst []] = .ok (intsI (rangeN 0 (many : Int))) [.lst (hs.map D.int), .lst []] := r1K_ap (by omega)
    generalize D.flst (ns.map D.int) = sn at *
    generalize [MO.lst (hs.map D.int), .lst []] = M1 at *
    generalize hci : intsI (rangeN 0 (many : Int)) = it at *
    have hchk : it.chk = fun _ => True := by rw [← hci]; rfl
    simp [rr, hchk, e3]
  obtain ⟨c2, hc2⟩ := cell_run ns 1 (by omega) M3
  obtain ⟨ps, hd2, hx2⟩ := draws_run (M := M3) (c := c2) (sizes := List.replicate 19 997) (by decide) (by decide)
  have hpl : ps.length = 19 := by rw [hx2.1]; rfl
  have hlen3 : 1 < M3.length := (List.getElem?_eq_some_iff.mp hM31).1
  obtain ⟨M4, hM4⟩ : ∃ M4, M4 = M3 ++ [MO.lst (ps.map D.int)] := ⟨_, rfl⟩
  have g41 : M4[1]? = some (.lst (ws.map D.str)) := by rw [hM4, List.getElem?_append_left hlen3]; exact hM31
  have g4p : M4[M3.length]? = some (.lst (ps.map D.int)) := by rw [hM4]; exact get_last
  rw [← hM4] at hd2
  have pk : ∀ k, k < 19 → ∃ x, ps[k]? = some x := fun k hk => ⟨ps[k], List.getElem?_eq_getElem (by omega)⟩
  have lf : listF [.cell 1] M4 = .ok (.lst (ws.map D.str)) M4 := by
    have sq : seqOf M4 (.cell 1) = some (ws.map D.str) := by
      show (match M4[1]? with | some (.lst ds) => some ds | _ => none) = _
      rw [g41]
    show (match seqOf M4 (.cell 1) with | some es => Res.ok (D.lst es) M4 | none => .stuck) = _
    rw [sq]
  have ll : lenF [.cell 1] M4 = .ok (.int ws.length) M4 := by
    rw [lenF_cell g41, List.length_map]
  obtain ⟨t, et, htw⟩ := tree_run (M := M4) (ws := ws) (picks := .cell M3.length) (W0 := .cell 1) lf ll (by omega) (by omega) (fun k hk => by
    obtain ⟨x, q⟩ := pk k (by omega)
    exact ⟨x, ixD_cell g4p (atI_of (by rw [List.getElem?_map, q]; rfl))⟩)
  have kt : t.ok := T.ok_of t fun w hw => hwo w (by rw [htw] at hw; exact hw)
  have nt : t.ws.length ≤ 20 := by rw [htw]; omega
  have z3 : (setS 5 (callE 2 F_l_tree (· ++ []) (consA (nameE 2) (consA (callE 2 F_l_draws (· ++ []) (consA (callE 2 F_l_cell (· ++ []) (consA (nameE 0) (consA (constE (.int 1)) nilA))) (consA (binE mulD (lstE (consA (constE (.int 997)) nilA)) (constE (.int 19))) nilA))) nilA)))) [some (.flst (ns.map D.int)), some (.int (many : Int)), some (.cell 1), o3, o4, none, none] M3 = .nx [some (.flst (ns.map D.int)), some (.int (many : Int)), some (.cell 1), o3, o4, some t.d, none] M4 := by
    have m2 : mulD (.lst [.int 997]) (.int 19) M3 = .ok (.lst (List.replicate 19 (.int 997))) M3 := by
      rw [mulD_lst ⟨by omega, by omega, by decide⟩]; rfl
    have hd2 : F_l_draws [.int c2, .lst (List.replicate 19 (.int 997))] M3 = .ok (.cell M3.length) M4 := hd2
    generalize D.flst (ns.map D.int) = sn at *
    generalize t.d = td at *
    generalize List.replicate 19 (D.int 997) = rp at *
    generalize M3.length = q3 at *
    simp [callK_ap, hc2, lstK_ap, m2, hd2, et]
  have tx := tx_of (M := M4) kt nt
  have wy := wy_of (M := M4) kt nt
  have dl := t.depth_lt
  have li := lis_run (M := M4) 30 t kt (by omega) nt
  have li : F_l_is [t.w, t.d] M4 = .ok (.bl true) M4 := li
  have st := strO_W (t := t) (wstr_run (M := M4) t)
  have z4 : (setS 6 (callE 1 (mkT "Way" F_WayD_initD) (· ++ []) (consA (callE 1 F_l_text (· ++ []) (consA (nameE 5) nilA)) nilA))) [some (.flst (ns.map D.int)), some (.int (many : Int)), some (.cell 1), o3, o4, some t.d, none] M4 = .nx [some (.flst (ns.map D.int)), some (.int (many : Int)), some (.cell 1), o3, o4, some t.d, some t.w] M4 := by
    generalize D.flst (ns.map D.int) = sn at *
    generalize t.d = td at *
    generalize t.w = tw at *
    generalize t.txt = tt at *
    simp [callK_ap, tx, wy]
  have z5 : (ifS (orB (notB (truB (callE 2 F_l_is (· ++ []) (consA (nameE 6) (consA (nameE 5) nilA))))) (notB (truB (callE 2 F_l_is (· ++ []) (consA (callE 1 (mkT "Way" F_WayD_initD) (· ++ []) (consA (appE (call1O "Way" F_WayD_strD isStrD) (consA (nameE 6) nilA)) nilA)) (consA (nameE 5) nilA)))))) (retS (constE (.bl false))) passS) [some (.flst (ns.map D.int)), some (.int (many : Int)), some (.cell 1), o3, o4, some t.d, some t.w] M4 = .nx [some (.flst (ns.map D.int)), some (.int (many : Int)), some (.cell 1), o3, o4, some t.d, some t.w] M4 := by
    generalize D.flst (ns.map D.int) = sn at *
    generalize t.d = td at *
    generalize t.w = tw at *
    generalize t.txt = tt at *
    simp [callK_ap, li, st, wy]
  have i1 : isiF csI (tblL tblI) [.str t.txt, .ty "str"] M4 = .ok (.bl true) M4 := rfl
  have ne := neO_S (M := M4) (bs := ["str", "list"]) (t := t) (x := t.txt) (by simp)
  have lv := leaves_W (M := M4) (t := t)
  have l6 : listF [.tup (t.ws.map D.str)] M4 = .ok (.lst (t.ws.map D.str)) M4 := rfl
  have el := eqO_L (M := M4) (bs := ["str", "list"]) (t := t) (ds := t.ws.map D.str) (by simp)
  refine ⟨M4, ?_⟩
  unfold F_law
  rw [runD_ap, show startD 7 [D.flst (ns.map D.int)] = [some (.flst (ns.map D.int)), none, none, none, none, none, none] from rfl]
  unfold m_law
  rw [seqS_ap, z0, SRes.seq_nx, seqS_ap, z1, SRes.seq_nx, seqS_ap, z2, SRes.seq_nx, seqS_ap, z3, SRes.seq_nx, seqS_ap, z4, SRes.seq_nx, seqS_ap, z5, SRes.seq_nx]
  clear z0 z1 z2 z3 z4 z5 li wy et
  generalize D.flst (ns.map D.int) = sn at *
  generalize t.ws.map D.str = tws at *
  generalize t.d = td at *
  generalize t.w = tw at *
  generalize t.txt = tt at *
  simp [callK_ap, st, i1, tx, ne, lv, l6, el]
end Lk11

namespace Lk11
open PySem PySem.Spec L2 DL
open PyProof.Rows hiding St
set_option maxHeartbeats 0 in
theorem facts {l : PySem.W.OpenLaw} {w : World} {K : PySem.W.Frag} {h : Heap} {mg : Str → Option Value} {fa : Addr} (X : K.In h) (G : h.Ns mainGlobals mg) (hfa : mg "law" = some (.ref fa))
    {c_NoWay : Addr}
    {c_Way : Addr}
    {c_WayError : Addr}
    {f_l_tree : Addr}
    {od_l_tree an_l_tree : Option Addr}
    {sl_l_tree : Array (Option Value)}
    {oc_l_tree kV_l_tree dc_l_tree pm_l_tree cd_l_tree ct_l_tree : Value}
    {f_NoWayD_initD : Addr}
    {od_NoWayD_initD an_NoWayD_initD : Option Addr}
    {sl_NoWayD_initD : Array (Option Value)}
    {oc_NoWayD_initD kV_NoWayD_initD dc_NoWayD_initD pm_NoWayD_initD cd_NoWayD_initD ct_NoWayD_initD : Value}
    {f_expected : Addr}
    {od_expected an_expected : Option Addr}
    {sl_expected : Array (Option Value)}
    {oc_expected kV_expected dc_expected pm_expected cd_expected ct_expected : Value}
    {f_end_of : Addr}
    {od_end_of an_end_of : Option Addr}
    {sl_end_of : Array (Option Value)}
    {oc_end_of kV_end_of dc_end_of pm_end_of cd_end_of ct_end_of : Value}
    {f_WayD_initD : Addr}
    {od_WayD_initD an_WayD_initD : Option Addr}
    {sl_WayD_initD : Array (Option Value)}
    {oc_WayD_initD kV_WayD_initD dc_WayD_initD pm_WayD_initD cd_WayD_initD ct_WayD_initD : Value}
    {f_l_draws : Addr}
    {od_l_draws an_l_draws : Option Addr}
    {sl_l_draws : Array (Option Value)}
    {oc_l_draws kV_l_draws dc_l_draws pm_l_draws cd_l_draws ct_l_draws : Value}
    {f_l_text : Addr}
    {od_l_text an_l_text : Option Addr}
    {sl_l_text : Array (Option Value)}
    {oc_l_text kV_l_text dc_l_text pm_l_text cd_l_text ct_l_text : Value}
    {f_WayD_eqD : Addr}
    {od_WayD_eqD an_WayD_eqD : Option Addr}
    {sl_WayD_eqD : Array (Option Value)}
    {oc_WayD_eqD kV_WayD_eqD dc_WayD_eqD pm_WayD_eqD cd_WayD_eqD ct_WayD_eqD : Value}
    {f_l_cell : Addr}
    {od_l_cell an_l_cell : Option Addr}
    {sl_l_cell : Array (Option Value)}
    {oc_l_cell kV_l_cell dc_l_cell pm_l_cell cd_l_cell ct_l_cell : Value}
    {f_l_word : Addr}
    {od_l_word an_l_word : Option Addr}
    {sl_l_word : Array (Option Value)}
    {oc_l_word kV_l_word dc_l_word pm_l_word cd_l_word ct_l_word : Value}
    {f_WayD_strD : Addr}
    {od_WayD_strD an_WayD_strD : Option Addr}
    {sl_WayD_strD : Array (Option Value)}
    {oc_WayD_strD kV_WayD_strD dc_WayD_strD pm_WayD_strD cd_WayD_strD ct_WayD_strD : Value}
    {f_l_leaves : Addr}
    {od_l_leaves an_l_leaves : Option Addr}
    {sl_l_leaves : Array (Option Value)}
    {oc_l_leaves kV_l_leaves dc_l_leaves pm_l_leaves cd_l_leaves ct_l_leaves : Value}
    {f_WayD_lenD : Addr}
    {od_WayD_lenD an_WayD_lenD : Option Addr}
    {sl_WayD_lenD : Array (Option Value)}
    {oc_WayD_lenD kV_WayD_lenD dc_WayD_lenD pm_WayD_lenD cd_WayD_lenD ct_WayD_lenD : Value}
    {f_WayD_iterD : Addr}
    {od_WayD_iterD an_WayD_iterD : Option Addr}
    {sl_WayD_iterD : Array (Option Value)}
    {oc_WayD_iterD kV_WayD_iterD dc_WayD_iterD pm_WayD_iterD cd_WayD_iterD ct_WayD_iterD : Value}
    {f_l_is : Addr}
    {od_l_is an_l_is : Option Addr}
    {sl_l_is : Array (Option Value)}
    {oc_l_is kV_l_is dc_l_is pm_l_is cd_l_is ct_l_is : Value}
    {f_law : Addr}
    {od_law an_law : Option Addr}
    {sl_law : Array (Option Value)}
    {oc_law kV_law dc_law pm_law cd_law ct_law : Value}
    {Xnm_NoWay Xq_NoWay : Str}
    {XN_NoWay : Addr}
    {Xbs_NoWay Xbm_NoWay Xsub_NoWay : List Value}
    {Xsn_NoWay : List Str}
    {Xab_NoWay : Bool}
    {Xcol_NoWay : Option Bool}
    {Xdd_NoWay : Option Addr}
    {X0_NoWay X1_NoWay X2_NoWay X3_NoWay X5_NoWay : Option Value}
    {tk_LETTERS : Tok}
    {tk_LONGEST_NAME : Tok}
    (aC_NoWay : PySem.W.nsIn K mainGlobals "NoWay" = some (some (.ref c_NoWay)))
    (aC_Way : PySem.W.nsIn K mainGlobals "Way" = some (some (.ref c_Way)))
    (aC_WayError : PySem.W.nsIn K mainGlobals "WayError" = some (some (.ref c_WayError)))
    (a_l_tree : PySem.W.nsIn K mainGlobals "_law_tree" = some (some (.ref f_l_tree)))
    (l_l_tree : K.lookup f_l_tree = some ⟨oc_l_tree, od_l_tree, .func (PySem.W.fnOf "_law_tree" "_law_tree" (defArgs s_l_tree) (defBody s_l_tree) (defScope s_l_tree) .none kV_l_tree dc_l_tree pm_l_tree an_l_tree cd_l_tree ct_l_tree), sl_l_tree⟩)
    (c_l_tree : PySem.W.codeIn K cd_l_tree "_law_tree" = true)
    (k_l_tree : PySem.W.keepIn K (.ref f_l_tree) = true)
    (a_NoWayD_initD : PySem.W.findIn K (.ref c_NoWay) "__init__" = some (some (.ref f_NoWayD_initD)))
    (i_NoWayD_initD : PySem.W.isFn K (.ref f_NoWayD_initD) = true)
    (l_NoWayD_initD : K.lookup f_NoWayD_initD = some ⟨oc_NoWayD_initD, od_NoWayD_initD, .func (PySem.W.fnOf "__init__" "NoWay.__init__" (defArgs s_NoWayD_initD) (defBody s_NoWayD_initD) (defScope s_NoWayD_initD) .none kV_NoWayD_initD dc_NoWayD_initD pm_NoWayD_initD an_NoWayD_initD cd_NoWayD_initD ct_NoWayD_initD), sl_NoWayD_initD⟩)
    (c_NoWayD_initD : PySem.W.codeIn K cd_NoWayD_initD "NoWay.__init__" = true)
    (k_NoWayD_initD : PySem.W.keepIn K (.ref f_NoWayD_initD) = true)
    (a_expected : PySem.W.nsIn K mainGlobals "expected" = some (some (.ref f_expected)))
    (l_expected : K.lookup f_expected = some ⟨oc_expected, od_expected, .func (PySem.W.fnOf "expected" "expected" (defArgs s_expected) (defBody s_expected) (defScope s_expected) .none kV_expected dc_expected pm_expected an_expected cd_expected ct_expected), sl_expected⟩)
    (c_expected : PySem.W.codeIn K cd_expected "expected" = true)
    (k_expected : PySem.W.keepIn K (.ref f_expected) = true)
    (a_end_of : PySem.W.nsIn K mainGlobals "end_of" = some (some (.ref f_end_of)))
    (l_end_of : K.lookup f_end_of = some ⟨oc_end_of, od_end_of, .func (PySem.W.fnOf "end_of" "end_of" (defArgs s_end_of) (defBody s_end_of) (defScope s_end_of) .none kV_end_of dc_end_of pm_end_of an_end_of cd_end_of ct_end_of), sl_end_of⟩)
    (c_end_of : PySem.W.codeIn K cd_end_of "end_of" = true)
    (k_end_of : PySem.W.keepIn K (.ref f_end_of) = true)
    (a_WayD_initD : PySem.W.findIn K (.ref c_Way) "__init__" = some (some (.ref f_WayD_initD)))
    (i_WayD_initD : PySem.W.isFn K (.ref f_WayD_initD) = true)
    (l_WayD_initD : K.lookup f_WayD_initD = some ⟨oc_WayD_initD, od_WayD_initD, .func (PySem.W.fnOf "__init__" "Way.__init__" (defArgs s_WayD_initD) (defBody s_WayD_initD) (defScope s_WayD_initD) .none kV_WayD_initD dc_WayD_initD pm_WayD_initD an_WayD_initD cd_WayD_initD ct_WayD_initD), sl_WayD_initD⟩)
    (c_WayD_initD : PySem.W.codeIn K cd_WayD_initD "Way.__init__" = true)
    (k_WayD_initD : PySem.W.keepIn K (.ref f_WayD_initD) = true)
    (a_l_draws : PySem.W.nsIn K mainGlobals "_law_draws" = some (some (.ref f_l_draws)))
    (l_l_draws : K.lookup f_l_draws = some ⟨oc_l_draws, od_l_draws, .func (PySem.W.fnOf "_law_draws" "_law_draws" (defArgs s_l_draws) (defBody s_l_draws) (defScope s_l_draws) .none kV_l_draws dc_l_draws pm_l_draws an_l_draws cd_l_draws ct_l_draws), sl_l_draws⟩)
    (c_l_draws : PySem.W.codeIn K cd_l_draws "_law_draws" = true)
    (k_l_draws : PySem.W.keepIn K (.ref f_l_draws) = true)
    (a_l_text : PySem.W.nsIn K mainGlobals "_law_text" = some (some (.ref f_l_text)))
    (l_l_text : K.lookup f_l_text = some ⟨oc_l_text, od_l_text, .func (PySem.W.fnOf "_law_text" "_law_text" (defArgs s_l_text) (defBody s_l_text) (defScope s_l_text) .none kV_l_text dc_l_text pm_l_text an_l_text cd_l_text ct_l_text), sl_l_text⟩)
    (c_l_text : PySem.W.codeIn K cd_l_text "_law_text" = true)
    (k_l_text : PySem.W.keepIn K (.ref f_l_text) = true)
    (a_WayD_eqD : PySem.W.findIn K (.ref c_Way) "__eq__" = some (some (.ref f_WayD_eqD)))
    (i_WayD_eqD : PySem.W.isFn K (.ref f_WayD_eqD) = true)
    (l_WayD_eqD : K.lookup f_WayD_eqD = some ⟨oc_WayD_eqD, od_WayD_eqD, .func (PySem.W.fnOf "__eq__" "Way.__eq__" (defArgs s_WayD_eqD) (defBody s_WayD_eqD) (defScope s_WayD_eqD) .none kV_WayD_eqD dc_WayD_eqD pm_WayD_eqD an_WayD_eqD cd_WayD_eqD ct_WayD_eqD), sl_WayD_eqD⟩)
    (c_WayD_eqD : PySem.W.codeIn K cd_WayD_eqD "Way.__eq__" = true)
    (k_WayD_eqD : PySem.W.keepIn K (.ref f_WayD_eqD) = true)
    (a_l_cell : PySem.W.nsIn K mainGlobals "_law_cell" = some (some (.ref f_l_cell)))
    (l_l_cell : K.lookup f_l_cell = some ⟨oc_l_cell, od_l_cell, .func (PySem.W.fnOf "_law_cell" "_law_cell" (defArgs s_l_cell) (defBody s_l_cell) (defScope s_l_cell) .none kV_l_cell dc_l_cell pm_l_cell an_l_cell cd_l_cell ct_l_cell), sl_l_cell⟩)
    (c_l_cell : PySem.W.codeIn K cd_l_cell "_law_cell" = true)
    (k_l_cell : PySem.W.keepIn K (.ref f_l_cell) = true)
    (a_l_word : PySem.W.nsIn K mainGlobals "_law_word" = some (some (.ref f_l_word)))
    (l_l_word : K.lookup f_l_word = some ⟨oc_l_word, od_l_word, .func (PySem.W.fnOf "_law_word" "_law_word" (defArgs s_l_word) (defBody s_l_word) (defScope s_l_word) .none kV_l_word dc_l_word pm_l_word an_l_word cd_l_word ct_l_word), sl_l_word⟩)
    (c_l_word : PySem.W.codeIn K cd_l_word "_law_word" = true)
    (k_l_word : PySem.W.keepIn K (.ref f_l_word) = true)
    (a_WayD_strD : PySem.W.findIn K (.ref c_Way) "__str__" = some (some (.ref f_WayD_strD)))
    (i_WayD_strD : PySem.W.isFn K (.ref f_WayD_strD) = true)
    (l_WayD_strD : K.lookup f_WayD_strD = some ⟨oc_WayD_strD, od_WayD_strD, .func (PySem.W.fnOf "__str__" "Way.__str__" (defArgs s_WayD_strD) (defBody s_WayD_strD) (defScope s_WayD_strD) .none kV_WayD_strD dc_WayD_strD pm_WayD_strD an_WayD_strD cd_WayD_strD ct_WayD_strD), sl_WayD_strD⟩)
    (c_WayD_strD : PySem.W.codeIn K cd_WayD_strD "Way.__str__" = true)
    (k_WayD_strD : PySem.W.keepIn K (.ref f_WayD_strD) = true)
    (a_l_leaves : PySem.W.nsIn K mainGlobals "_law_leaves" = some (some (.ref f_l_leaves)))
    (l_l_leaves : K.lookup f_l_leaves = some ⟨oc_l_leaves, od_l_leaves, .func (PySem.W.fnOf "_law_leaves" "_law_leaves" (defArgs s_l_leaves) (defBody s_l_leaves) (defScope s_l_leaves) .none kV_l_leaves dc_l_leaves pm_l_leaves an_l_leaves cd_l_leaves ct_l_leaves), sl_l_leaves⟩)
    (c_l_leaves : PySem.W.codeIn K cd_l_leaves "_law_leaves" = true)
    (k_l_leaves : PySem.W.keepIn K (.ref f_l_leaves) = true)
    (a_WayD_lenD : PySem.W.findIn K (.ref c_Way) "__len__" = some (some (.ref f_WayD_lenD)))
    (i_WayD_lenD : PySem.W.isFn K (.ref f_WayD_lenD) = true)
    (l_WayD_lenD : K.lookup f_WayD_lenD = some ⟨oc_WayD_lenD, od_WayD_lenD, .func (PySem.W.fnOf "__len__" "Way.__len__" (defArgs s_WayD_lenD) (defBody s_WayD_lenD) (defScope s_WayD_lenD) .none kV_WayD_lenD dc_WayD_lenD pm_WayD_lenD an_WayD_lenD cd_WayD_lenD ct_WayD_lenD), sl_WayD_lenD⟩)
    (c_WayD_lenD : PySem.W.codeIn K cd_WayD_lenD "Way.__len__" = true)
    (k_WayD_lenD : PySem.W.keepIn K (.ref f_WayD_lenD) = true)
    (a_WayD_iterD : PySem.W.findIn K (.ref c_Way) "__iter__" = some (some (.ref f_WayD_iterD)))
    (i_WayD_iterD : PySem.W.isFn K (.ref f_WayD_iterD) = true)
    (l_WayD_iterD : K.lookup f_WayD_iterD = some ⟨oc_WayD_iterD, od_WayD_iterD, .func (PySem.W.fnOf "__iter__" "Way.__iter__" (defArgs s_WayD_iterD) (defBody s_WayD_iterD) (defScope s_WayD_iterD) .none kV_WayD_iterD dc_WayD_iterD pm_WayD_iterD an_WayD_iterD cd_WayD_iterD ct_WayD_iterD), sl_WayD_iterD⟩)
    (c_WayD_iterD : PySem.W.codeIn K cd_WayD_iterD "Way.__iter__" = true)
    (k_WayD_iterD : PySem.W.keepIn K (.ref f_WayD_iterD) = true)
    (a_l_is : PySem.W.nsIn K mainGlobals "_law_is" = some (some (.ref f_l_is)))
    (l_l_is : K.lookup f_l_is = some ⟨oc_l_is, od_l_is, .func (PySem.W.fnOf "_law_is" "_law_is" (defArgs s_l_is) (defBody s_l_is) (defScope s_l_is) .none kV_l_is dc_l_is pm_l_is an_l_is cd_l_is ct_l_is), sl_l_is⟩)
    (c_l_is : PySem.W.codeIn K cd_l_is "_law_is" = true)
    (k_l_is : PySem.W.keepIn K (.ref f_l_is) = true)
    (a_law : PySem.W.nsIn K mainGlobals "law" = some (some (.ref f_law)))
    (l_law : K.lookup f_law = some ⟨oc_law, od_law, .func (PySem.W.fnOf "law" "law" (defArgs s_law) (defBody s_law) (defScope s_law) .none kV_law dc_law pm_law an_law cd_law ct_law), sl_law⟩)
    (c_law : PySem.W.codeIn K cd_law "law" = true)
    (k_law : PySem.W.keepIn K (.ref f_law) = true)
    (pg_Way : PySem.W.plainGet K c_Way Str.empty = true)
    (hd_Way : PySem.W.hasDictIn K c_Way = true)
    (po_Way : PySem.W.plainOver K c_Way = true)
    (sa_Way : PySem.W.findIn K (.ref c_Way) "__setattr__" = some (some (.builtin "object.__setattr__")))
    (mk_Way : PySem.W.makesIn K c_Way = true)
    (kc_Way : PySem.W.keepIn K (.ref c_Way) = true)
    (na_Way_leaves : PySem.W.findIn K (.ref c_Way) "leaves" = some none)
    (na_Way_left : PySem.W.findIn K (.ref c_Way) "left" = some none)
    (na_Way_name : PySem.W.findIn K (.ref c_Way) "name" = some none)
    (na_Way_right : PySem.W.findIn K (.ref c_Way) "right" = some none)
    (na_Way_text : PySem.W.findIn K (.ref c_Way) "text" = some none)
    (nb_Way_str : PySem.W.subIn K (.type "str") (.ref c_Way) = some false)
    (nb_Way_list : PySem.W.subIn K (.type "list") (.ref c_Way) = some false)
    (ne_Way : PySem.W.findIn K (.ref c_Way) "__ne__" = some (some (.builtin "object.__ne__")))
    (mo_Way : PySem.W.mroIn K c_Way (.type "object") = some true)
    (ohn : PySem.W.specialIn K (.builtin "object.__class__") "__get__" = some (some (.builtin "getset_descriptor.__get__")))
    (otk : PySem.W.takesIn K (.builtin "object.__class__") = some true)
    (oha_Way : PySem.W.findIn K (.ref c_Way) "__class__" = some (some (.builtin "object.__class__")))
    (is_0 : PySem.W.subIn K (.ref c_Way) (.ref c_Way) = some true)
    (cf_Way : PySem.W.isClsIn K c_Way = true)
    (ct_Way : PySem.W.typeIn K (.ref c_Way) = some (.type "type"))
    (is_1 : PySem.W.subIn K (.type "str") (.ref c_Way) = some false)
    (is_2 : PySem.W.subIn K (.type "list") (.ref c_Way) = some false)
    (br_WayError : PySem.W.readsIn K c_WayError (.type "type") = true)
    (bg_WayError : PySem.W.specialIn K (.ref c_WayError) "__getattribute__" = some (some (.builtin "type.__getattribute__")))
    (bv_WayError : PySem.W.findCls K (.ref c_WayError) (.type "type") "__init__" = some (.val (.builtin "ValueError.__init__")))
    (xl_NoWay : K.lookup c_NoWay = some (excClassObj Xnm_NoWay Xq_NoWay c_NoWay XN_NoWay Xbs_NoWay Xbm_NoWay true Xsn_NoWay Xsub_NoWay Xab_NoWay Xcol_NoWay Xdd_NoWay X0_NoWay X1_NoWay X2_NoWay X3_NoWay X5_NoWay "ValueError.__new__"))
    (xr_NoWay : PySem.HandSPX.refsVE Xbm_NoWay = true)
    (xs_NoWay : PySem.W.findIn K (.ref c_NoWay) "__setattr__" = some (some (.builtin "object.__setattr__")))
    (xe_NoWay : PySem.W.subIn K (.ref c_NoWay) (.type "BaseException") = some true)
    (xt_NoWay : PySem.W.typeIn K (.ref c_NoWay) = some (.type "type"))
    (xk_NoWay : PySem.W.keepIn K (.ref c_NoWay) = true)
    (xi_NoWay : PySem.W.typeIn K (.ref f_NoWayD_initD) = some (.type "function"))
    (xn_NoWay_at : PySem.W.findIn K (.ref c_NoWay) "at" = some none)
    (n_abs : PySem.W.nsIn K mainGlobals "abs" = some none)
    (n_int : PySem.W.nsIn K mainGlobals "int" = some none)
    (n_isinstance : PySem.W.nsIn K mainGlobals "isinstance" = some none)
    (n_iter : PySem.W.nsIn K mainGlobals "iter" = some none)
    (n_len : PySem.W.nsIn K mainGlobals "len" = some none)
    (n_list : PySem.W.nsIn K mainGlobals "list" = some none)
    (n_range : PySem.W.nsIn K mainGlobals "range" = some none)
    (n_str : PySem.W.nsIn K mainGlobals "str" = some none)
    (n_tuple : PySem.W.nsIn K mainGlobals "tuple" = some none)
    (s_LETTERS : PySem.W.nsIn K mainGlobals "LETTERS" = some (some (.str (Str.ofString "abcdefghijklmnopqrstuvwxyz") tk_LETTERS)))
    (s_LONGEST_NAME : PySem.W.nsIn K mainGlobals "LONGEST_NAME" = some (some (.int 6 tk_LONGEST_NAME)))
    : ∃ fd : FuncData, (∀ (s : Shared) (v : Value), BindsTo s fd ⟨[v], []⟩ [("_law_script", v)]) ∧ ∀ base : Heap, K.In base → base.Ns mainGlobals mg → FnOk l.prog w K mg base (L2.CX l.prog w) 123 fa fd ["_law_script"] (spLaw K) := by
  have e := hfa.symm.trans (PySem.W.mg_of X G a_law)
  have e2 : f_law = fa := by cases e; rfl
  subst e2
  have F_l_tree : FnP K "_law_tree" "_law_tree" s_l_tree [] [] f_l_tree _ := fnP_mk l_l_tree c_l_tree k_l_tree
  have F_NoWayD_initD : FnP K "__init__" "NoWay.__init__" s_NoWayD_initD [] [] f_NoWayD_initD _ := fnP_mk l_NoWayD_initD c_NoWayD_initD k_NoWayD_initD
  have F_expected : FnP K "expected" "expected" s_expected [] [] f_expected _ := fnP_mk l_expected c_expected k_expected
  have F_end_of : FnP K "end_of" "end_of" s_end_of [] [] f_end_of _ := fnP_mk l_end_of c_end_of k_end_of
  have F_WayD_initD : FnP K "__init__" "Way.__init__" s_WayD_initD [] [] f_WayD_initD _ := fnP_mk l_WayD_initD c_WayD_initD k_WayD_initD
  have F_l_draws : FnP K "_law_draws" "_law_draws" s_l_draws [] [] f_l_draws _ := fnP_mk l_l_draws c_l_draws k_l_draws
  have F_l_text : FnP K "_law_text" "_law_text" s_l_text [] [] f_l_text _ := fnP_mk l_l_text c_l_text k_l_text
  have F_WayD_eqD : FnP K "__eq__" "Way.__eq__" s_WayD_eqD [] [] f_WayD_eqD _ := fnP_mk l_WayD_eqD c_WayD_eqD k_WayD_eqD
  have F_l_cell : FnP K "_law_cell" "_law_cell" s_l_cell [] [] f_l_cell _ := fnP_mk l_l_cell c_l_cell k_l_cell
  have F_l_word : FnP K "_law_word" "_law_word" s_l_word [] [] f_l_word _ := fnP_mk l_l_word c_l_word k_l_word
  have F_WayD_strD : FnP K "__str__" "Way.__str__" s_WayD_strD [] [] f_WayD_strD _ := fnP_mk l_WayD_strD c_WayD_strD k_WayD_strD
  have F_l_leaves : FnP K "_law_leaves" "_law_leaves" s_l_leaves [] [] f_l_leaves _ := fnP_mk l_l_leaves c_l_leaves k_l_leaves
  have F_WayD_lenD : FnP K "__len__" "Way.__len__" s_WayD_lenD [] [] f_WayD_lenD _ := fnP_mk l_WayD_lenD c_WayD_lenD k_WayD_lenD
  have F_WayD_iterD : FnP K "__iter__" "Way.__iter__" s_WayD_iterD [] [] f_WayD_iterD _ := fnP_mk l_WayD_iterD c_WayD_iterD k_WayD_iterD
  have F_l_is : FnP K "_law_is" "_law_is" s_l_is [] [] f_l_is _ := fnP_mk l_l_is c_l_is k_l_is
  have F_law : FnP K "law" "law" s_law [] [] f_law _ := fnP_mk l_law c_law k_law
  let A : Ad := {f_l_tree := f_l_tree, d_l_tree := (PySem.W.fnOf "_law_tree" "_law_tree" (defArgs s_l_tree) (defBody s_l_tree) (defScope s_l_tree) .none kV_l_tree dc_l_tree pm_l_tree an_l_tree cd_l_tree ct_l_tree), f_NoWayD_initD := f_NoWayD_initD, d_NoWayD_initD := (PySem.W.fnOf "__init__" "NoWay.__init__" (defArgs s_NoWayD_initD) (defBody s_NoWayD_initD) (defScope s_NoWayD_initD) .none kV_NoWayD_initD dc_NoWayD_initD pm_NoWayD_initD an_NoWayD_initD cd_NoWayD_initD ct_NoWayD_initD), f_expected := f_expected, d_expected := (PySem.W.fnOf "expected" "expected" (defArgs s_expected) (defBody s_expected) (defScope s_expected) .none kV_expected dc_expected pm_expected an_expected cd_expected ct_expected), f_end_of := f_end_of, d_end_of := (PySem.W.fnOf "end_of" "end_of" (defArgs s_end_of) (defBody s_end_of) (defScope s_end_of) .none kV_end_of dc_end_of pm_end_of an_end_of cd_end_of ct_end_of), f_WayD_initD := f_WayD_initD, d_WayD_initD := (PySem.W.fnOf "__init__" "Way.__init__" (defArgs s_WayD_initD) (defBody s_WayD_initD) (defScope s_WayD_initD) .none kV_WayD_initD dc_WayD_initD pm_WayD_initD an_WayD_initD cd_WayD_initD ct_WayD_initD), f_l_draws := f_l_draws, d_l_draws := (PySem.W.fnOf "_law_draws" "_law_draws" (defArgs s_l_draws) (defBody s_l_draws) (defScope s_l_draws) .none kV_l_draws dc_l_draws pm_l_draws an_l_draws cd_l_draws ct_l_draws), f_l_text := f_l_text, d_l_text := (PySem.W.fnOf "_law_text" "_law_text" (defArgs s_l_text) (defBody s_l_text) (defScope s_l_text) .none kV_l_text dc_l_text pm_l_text an_l_text cd_l_text ct_l_text), f_WayD_eqD := f_WayD_eqD, d_WayD_eqD := (PySem.W.fnOf "__eq__" "Way.__eq__" (defArgs s_WayD_eqD) (defBody s_WayD_eqD) (defScope s_WayD_eqD) .none kV_WayD_eqD dc_WayD_eqD pm_WayD_eqD an_WayD_eqD cd_WayD_eqD ct_WayD_eqD), f_l_cell := f_l_cell, d_l_cell := (PySem.W.fnOf "_law_cell" "_law_cell" (defArgs s_l_cell) (defBody s_l_cell) (defScope s_l_cell) .none kV_l_cell dc_l_cell pm_l_cell an_l_cell cd_l_cell ct_l_cell), f_l_word := f_l_word, d_l_word := (PySem.W.fnOf "_law_word" "_law_word" (defArgs s_l_word) (defBody s_l_word) (defScope s_l_word) .none kV_l_word dc_l_word pm_l_word an_l_word cd_l_word ct_l_word), f_WayD_strD := f_WayD_strD, d_WayD_strD := (PySem.W.fnOf "__str__" "Way.__str__" (defArgs s_WayD_strD) (defBody s_WayD_strD) (defScope s_WayD_strD) .none kV_WayD_strD dc_WayD_strD pm_WayD_strD an_WayD_strD cd_WayD_strD ct_WayD_strD), f_l_leaves := f_l_leaves, d_l_leaves := (PySem.W.fnOf "_law_leaves" "_law_leaves" (defArgs s_l_leaves) (defBody s_l_leaves) (defScope s_l_leaves) .none kV_l_leaves dc_l_leaves pm_l_leaves an_l_leaves cd_l_leaves ct_l_leaves), f_WayD_lenD := f_WayD_lenD, d_WayD_lenD := (PySem.W.fnOf "__len__" "Way.__len__" (defArgs s_WayD_lenD) (defBody s_WayD_lenD) (defScope s_WayD_lenD) .none kV_WayD_lenD dc_WayD_lenD pm_WayD_lenD an_WayD_lenD cd_WayD_lenD ct_WayD_lenD), f_WayD_iterD := f_WayD_iterD, d_WayD_iterD := (PySem.W.fnOf "__iter__" "Way.__iter__" (defArgs s_WayD_iterD) (defBody s_WayD_iterD) (defScope s_WayD_iterD) .none kV_WayD_iterD dc_WayD_iterD pm_WayD_iterD an_WayD_iterD cd_WayD_iterD ct_WayD_iterD), f_l_is := f_l_is, d_l_is := (PySem.W.fnOf "_law_is" "_law_is" (defArgs s_l_is) (defBody s_l_is) (defScope s_l_is) .none kV_l_is dc_l_is pm_l_is an_l_is cd_l_is ct_l_is), f_law := f_law, d_law := (PySem.W.fnOf "law" "law" (defArgs s_law) (defBody s_law) (defScope s_law) .none kV_law dc_law pm_law an_law cd_law ct_law), c_NoWay := c_NoWay, c_Way := c_Way, c_WayError := c_WayError}
  have g_NoWay : mg "NoWay" = some (.ref c_NoWay) := PySem.W.mg_of X G aC_NoWay
  have g_Way : mg "Way" = some (.ref c_Way) := PySem.W.mg_of X G aC_Way
  have g_WayError : mg "WayError" = some (.ref c_WayError) := PySem.W.mg_of X G aC_WayError
  have ci_Way : CInfo K mg "Way" c_Way ["leaves", "left", "name", "right", "text"] := ⟨g_Way, ⟨pg_Way, hd_Way, po_Way, sa_Way⟩, (na_cons na_Way_leaves (na_cons na_Way_left (na_cons na_Way_name (na_cons na_Way_right (na_cons na_Way_text na_nil)))))⟩
  have T : Fx K mg A := {
    n_abs := PySem.W.mg_none_of X G n_abs,
    n_int := PySem.W.mg_none_of X G n_int,
    n_isinstance := PySem.W.mg_none_of X G n_isinstance,
    n_iter := PySem.W.mg_none_of X G n_iter,
    n_len := PySem.W.mg_none_of X G n_len,
    n_list := PySem.W.mg_none_of X G n_list,
    n_range := PySem.W.mg_none_of X G n_range,
    n_str := PySem.W.mg_none_of X G n_str,
    n_tuple := PySem.W.mg_none_of X G n_tuple,
    s_LETTERS := ⟨_, PySem.W.mg_of X G s_LETTERS⟩,
    s_LONGEST_NAME := ⟨_, PySem.W.mg_of X G s_LONGEST_NAME⟩,
    F_l_tree := F_l_tree,
    g_l_tree := PySem.W.mg_of X G a_l_tree,
    F_NoWayD_initD := F_NoWayD_initD,
    F_expected := F_expected,
    g_expected := PySem.W.mg_of X G a_expected,
    F_end_of := F_end_of,
    g_end_of := PySem.W.mg_of X G a_end_of,
    F_WayD_initD := F_WayD_initD,
    F_l_draws := F_l_draws,
    g_l_draws := PySem.W.mg_of X G a_l_draws,
    F_l_text := F_l_text,
    g_l_text := PySem.W.mg_of X G a_l_text,
    F_WayD_eqD := F_WayD_eqD,
    F_l_cell := F_l_cell,
    g_l_cell := PySem.W.mg_of X G a_l_cell,
    F_l_word := F_l_word,
    g_l_word := PySem.W.mg_of X G a_l_word,
    F_WayD_strD := F_WayD_strD,
    F_l_leaves := F_l_leaves,
    g_l_leaves := PySem.W.mg_of X G a_l_leaves,
    F_WayD_lenD := F_WayD_lenD,
    F_WayD_iterD := F_WayD_iterD,
    F_l_is := F_l_is,
    g_l_is := PySem.W.mg_of X G a_l_is,
    F_law := F_law,
    g_law := PySem.W.mg_of X G a_law,
    b_WayD_initD_2 := dflK_none (F_WayD_initD.bindsN fun _ _ _ _ _ _ us hl => match us, hl with | [_, _], _ => rfl),
    b_l_cell_2 := dflK_none (F_l_cell.bindsN fun _ _ _ _ _ _ us hl => match us, hl with | [_, _], _ => rfl),
    b_l_draws_2 := dflK_none (F_l_draws.bindsN fun _ _ _ _ _ _ us hl => match us, hl with | [_, _], _ => rfl),
    b_l_is_2 := dflK_none (F_l_is.bindsN fun _ _ _ _ _ _ us hl => match us, hl with | [_, _], _ => rfl),
    b_l_leaves_1 := dflK_none (F_l_leaves.bindsN fun _ _ _ _ _ _ us hl => match us, hl with | [_], _ => rfl),
    b_l_text_1 := dflK_none (F_l_text.bindsN fun _ _ _ _ _ _ us hl => match us, hl with | [_], _ => rfl),
    b_l_tree_2 := dflK_none (F_l_tree.bindsN fun _ _ _ _ _ _ us hl => match us, hl with | [_, _], _ => rfl),
    b_l_word_1 := dflK_none (F_l_word.bindsN fun _ _ _ _ _ _ us hl => match us, hl with | [_], _ => rfl),
    b_end_of_2 := dflK_none (F_end_of.bindsN fun _ _ _ _ _ _ us hl => match us, hl with | [_, _], _ => rfl),
    b_expected_3 := dflK_none (F_expected.bindsN fun _ _ _ _ _ _ us hl => match us, hl with | [_, _, _], _ => rfl),
    bd_NoWayD_initD := F_NoWayD_initD.bindsN fun _ _ _ _ _ _ us hl => match us, hl with | [_, _], _ => rfl,
    bd_WayD_eqD := F_WayD_eqD.bindsN fun _ _ _ _ _ _ us hl => match us, hl with | [_, _], _ => rfl,
    bd_WayD_iterD := F_WayD_iterD.bindsN fun _ _ _ _ _ _ us hl => match us, hl with | [_], _ => rfl,
    bd_WayD_lenD := F_WayD_lenD.bindsN fun _ _ _ _ _ _ us hl => match us, hl with | [_], _ => rfl,
    bd_WayD_strD := F_WayD_strD.bindsN fun _ _ _ _ _ _ us hl => match us, hl with | [_], _ => rfl,
    g_NoWay := g_NoWay,
    g_Way := g_Way,
    g_WayError := g_WayError,
    ci_Way := ci_Way,
    mk_Way := ⟨mk_Way, a_WayD_initD, i_WayD_initD, kc_Way⟩,
    m_WayD_eqD := ⟨a_WayD_eqD, i_WayD_eqD, k_WayD_eqD⟩,
    m_WayD_iterD := ⟨a_WayD_iterD, i_WayD_iterD, k_WayD_iterD⟩,
    m_WayD_lenD := ⟨a_WayD_lenD, i_WayD_lenD, k_WayD_lenD⟩,
    m_WayD_strD := ⟨a_WayD_strD, i_WayD_strD, k_WayD_strD⟩,
    er_Way := eqRight_of g_Way (nb_cons nb_Way_str (nb_cons nb_Way_list nb_nil)),
    ne_Way := ne_Way,
    mo_Way := mo_Way,
    fs_Way__leaves := (fs_cons ci_Way (by decide) fs_nil),
    fs_Way__left := (fs_cons ci_Way (by decide) fs_nil),
    fs_Way__name := (fs_cons ci_Way (by decide) fs_nil),
    fs_Way__right := (fs_cons ci_Way (by decide) fs_nil),
    fs_Way__text := (fs_cons ci_Way (by decide) fs_nil),
    bx_WayError := ⟨br_WayError, bg_WayError, bv_WayError⟩,
    ex_NoWay := ⟨g_NoWay, oexC_mk xl_NoWay xr_NoWay xs_NoWay xe_NoWay xt_NoWay xk_NoWay, a_NoWayD_initD, xi_NoWay, (na_cons xn_NoWay_at na_nil)⟩,
    tb_isi := (tblL_cons (tn_c g_Way).1 (tn_c g_Way).2 (kit_own (.inr rfl) cf_Way ct_Way is_0) (tblL_cons (tn_c g_Way).1 tn_b.2 (kit_own (.inl bt_ne) cf_Way ct_Way is_1) (tblL_cons (tn_c g_Way).1 tn_b.2 (kit_own (.inl bt_ne) cf_Way ct_Way is_2) tblL_nil))),
    ic_isi := (isC_cons g_Way ⟨ci_Way.cl, oha_Way, ohn, otk, mo_Way⟩ isC_nil) }
  have b := FunD.bindsA (ps := ["_law_script"]) F_law fun _ _ _ _ _ _ us hl => match us, hl with | [_], _ => rfl
  exact ⟨_, fun s v => b s [v] rfl, fun base _ _ => dok_law (ok_law T) law_plain⟩
end Lk11
open PySem PySem.W PyProof.Rows
set_option maxRecDepth 100000 in
set_option maxHeartbeats 0 in
theorem PySem.Challenge.cw_neededlaws_k11_texts_of_ways_holds : PySem.Challenge.rw_neededlaws_k11_texts_of_ways.Holds := by
  w_on; o_law; k_head; (case hw => w_witness2)
  k_fill
  refine DL.walkD (l := PySem.Challenge.rw_neededlaws_k11_texts_of_ways) "_law_script" 123 rfl rfl ⟨rfl, by decide, by decide⟩ (fun w h Y => PySem.W.kIn_of Y) ?F
  case F =>
    intro w mg fa h KX G hmg
    refine' Lk11.facts KX G hmg ?aC_NoWay ?aC_Way ?aC_WayError ?a_l_tree ?l_l_tree ?c_l_tree ?k_l_tree ?a_NoWayD_initD ?i_NoWayD_initD ?l_NoWayD_initD ?c_NoWayD_initD ?k_NoWayD_initD ?a_expected ?l_expected ?c_expected ?k_expected ?a_end_of ?l_end_of ?c_end_of ?k_end_of ?a_WayD_initD ?i_WayD_initD ?l_WayD_initD ?c_WayD_initD ?k_WayD_initD ?a_l_draws ?l_l_draws ?c_l_draws ?k_l_draws ?a_l_text ?l_l_text ?c_l_text ?k_l_text ?a_WayD_eqD ?i_WayD_eqD ?l_WayD_eqD ?c_WayD_eqD ?k_WayD_eqD ?a_l_cell ?l_l_cell ?c_l_cell ?k_l_cell ?a_l_word ?l_l_word ?c_l_word ?k_l_word ?a_WayD_strD ?i_WayD_strD ?l_WayD_strD ?c_WayD_strD ?k_WayD_strD ?a_l_leaves ?l_l_leaves ?c_l_leaves ?k_l_leaves ?a_WayD_lenD ?i_WayD_lenD ?l_WayD_lenD ?c_WayD_lenD ?k_WayD_lenD ?a_WayD_iterD ?i_WayD_iterD ?l_WayD_iterD ?c_WayD_iterD ?k_WayD_iterD ?a_l_is ?l_l_is ?c_l_is ?k_l_is ?a_law ?l_law ?c_law ?k_law ?pg_Way ?hd_Way ?po_Way ?sa_Way ?mk_Way ?kc_Way ?na_Way_leaves ?na_Way_left ?na_Way_name ?na_Way_right ?na_Way_text ?nb_Way_str ?nb_Way_list ?ne_Way ?mo_Way ?ohn ?otk ?oha_Way ?is_0 ?cf_Way ?ct_Way ?is_1 ?is_2 ?br_WayError ?bg_WayError ?bv_WayError ?xl_NoWay ?xr_NoWay ?xs_NoWay ?xe_NoWay ?xt_NoWay ?xk_NoWay ?xi_NoWay ?xn_NoWay_at ?n_abs ?n_int ?n_isinstance ?n_iter ?n_len ?n_list ?n_range ?n_str ?n_tuple ?s_LETTERS ?s_LONGEST_NAME
    (case aC_NoWay => k_is)
    (case aC_Way => k_is)
    (case aC_WayError => k_is)
    (case a_l_tree => k_is)
    (case l_l_tree => k_is)
    (case c_l_tree => k_is)
    (case k_l_tree => k_is)
    (case a_NoWayD_initD => k_is)
    (case i_NoWayD_initD => k_is)
    (case l_NoWayD_initD => k_is)
    (case c_NoWayD_initD => k_is)
    (case k_NoWayD_initD => k_is)
    (case a_expected => k_is)
    (case l_expected => k_is)
    (case c_expected => k_is)
    (case k_expected => k_is)
    (case a_end_of => k_is)
    (case l_end_of => k_is)
    (case c_end_of => k_is)
    (case k_end_of => k_is)
    (case a_WayD_initD => k_is)
    (case i_WayD_initD => k_is)
    (case l_WayD_initD => k_is)
    (case c_WayD_initD => k_is)
    (case k_WayD_initD => k_is)
    (case a_l_draws => k_is)
    (case l_l_draws => k_is)
    (case c_l_draws => k_is)
    (case k_l_draws => k_is)
    (case a_l_text => k_is)
    (case l_l_text => k_is)
    (case c_l_text => k_is)
    (case k_l_text => k_is)
    (case a_WayD_eqD => k_is)
    (case i_WayD_eqD => k_is)
    (case l_WayD_eqD => k_is)
    (case c_WayD_eqD => k_is)
    (case k_WayD_eqD => k_is)
    (case a_l_cell => k_is)
    (case l_l_cell => k_is)
    (case c_l_cell => k_is)
    (case k_l_cell => k_is)
    (case a_l_word => k_is)
    (case l_l_word => k_is)
    (case c_l_word => k_is)
    (case k_l_word => k_is)
    (case a_WayD_strD => k_is)
    (case i_WayD_strD => k_is)
    (case l_WayD_strD => k_is)
    (case c_WayD_strD => k_is)
    (case k_WayD_strD => k_is)
    (case a_l_leaves => k_is)
    (case l_l_leaves => k_is)
    (case c_l_leaves => k_is)
    (case k_l_leaves => k_is)
    (case a_WayD_lenD => k_is)
    (case i_WayD_lenD => k_is)
    (case l_WayD_lenD => k_is)
    (case c_WayD_lenD => k_is)
    (case k_WayD_lenD => k_is)
    (case a_WayD_iterD => k_is)
    (case i_WayD_iterD => k_is)
    (case l_WayD_iterD => k_is)
    (case c_WayD_iterD => k_is)
    (case k_WayD_iterD => k_is)
    (case a_l_is => k_is)
    (case l_l_is => k_is)
    (case c_l_is => k_is)
    (case k_l_is => k_is)
    (case a_law => k_is)
    (case l_law => k_is)
    (case c_law => k_is)
    (case k_law => k_is)
    (case pg_Way => k_is)
    (case hd_Way => k_is)
    (case po_Way => k_is)
    (case sa_Way => k_is)
    (case mk_Way => k_is)
    (case kc_Way => k_is)
    (case na_Way_leaves => k_is)
    (case na_Way_left => k_is)
    (case na_Way_name => k_is)
    (case na_Way_right => k_is)
    (case na_Way_text => k_is)
    (case nb_Way_str => k_is)
    (case nb_Way_list => k_is)
    (case ne_Way => k_is)
    (case mo_Way => k_is)
    (case ohn => k_is)
    (case otk => k_is)
    (case oha_Way => k_is)
    (case is_0 => k_is)
    (case cf_Way => k_is)
    (case ct_Way => k_is)
    (case is_1 => k_is)
    (case is_2 => k_is)
    (case br_WayError => k_is)
    (case bg_WayError => k_is)
    (case bv_WayError => k_is)
    (case xl_NoWay => k_is)
    (case xr_NoWay => rfl)
    (case xs_NoWay => k_is)
    (case xe_NoWay => k_is)
    (case xt_NoWay => k_is)
    (case xk_NoWay => k_is)
    (case xi_NoWay => k_is)
    (case xn_NoWay_at => k_is)
    (case n_abs => k_is)
    (case n_int => k_is)
    (case n_isinstance => k_is)
    (case n_iter => k_is)
    (case n_len => k_is)
    (case n_list => k_is)
    (case n_range => k_is)
    (case n_str => k_is)
    (case n_tuple => k_is)
    (case s_LETTERS => k_is)
    (case s_LONGEST_NAME => k_is)

