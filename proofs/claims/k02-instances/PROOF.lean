import PyProof.Rows.All
import Wide.All
import OpenK.AllK
import Wide.FinOn
import HandS.ForMost
import HandS.DictComp
import HandS.Walk
import HandS.Lambda
import HandS.HeadHook1
import KE.KDictKeyed
import KE.KeyNested
import HandS.TupAny
import HandS.Flow
import HandS.Iter
import KE.GoesEnum
import HandS.SortKw
import KE.KMinKey
import HandS.Words
import HandS.Defaults
import HandS.HeadHook4
import HandS.HeadWalk
import HandS.Head2
import HandS.Style
import HandS.Zip
import HandS.SetFor
import HandS.Strs
import KE.KDictWalk
import HandS.SortInts
import HandS.ExcValue
import HandS.ExcOwn
import KE.KDictDisplayH
import HandS.ExcIs
import KE.DataMinMax
import KE.SortData
import HandS.IsInst
import HandS.Conv
import KE.GoesEnumKw
import KE.KItemsList
import HandS.ListItems
import KE.KDictPairs
import PySem.Challenge.RW_bankloops_k02_instances
set_option Elab.async false
set_option linter.all false
set_option maxRecDepth 100000
set_option maxHeartbeats 4000000
set_option autoImplicit false
/-! A layer of data over HandS: each piece of the text is read as a plain function of slots and store. -/
namespace M
open PySem L2

/-- data: tuples are plain, lists and dicts stand in the store -/
inductive D where
  | non | bl (b : Bool) | int (i : Int) | str (x : Str) | tup (ds : List D) | ref (n : Nat) | raw (v : V) | rl (ns : List Int) | ptp (ds : List D)
/-- objects: lists, dicts by ints and texts (fd: while a loop walks it), tables of code, dicts by tuples (fn: while a loop walks it), caught exceptions -/
inductive O where
  | lst (ds : List D) | dk (kvs : List (Key × D)) | fd (kvs : List (Key × D)) | tb (P : Addr) (q : Str)
  | dn (kvs : List (NestedKey × D)) | fn (kvs : List (NestedKey × D)) | ex (c : Str) (fs : List (Str × D))
/-- what is fixed for a run -/
structure KX where
  K : PySem.W.Frag
  P : Program
  w : World
instance : CoeHead KX PySem.W.Frag := ⟨KX.K⟩
abbrev gX (X : Cx) : KX := ⟨X.K, X.prog, X.w⟩
mutual
/-- a key as data -/
def nkD : NestedKey → D
  | .none => .non
  | .num i => .int i
  | .text x => .str x
  | .tup ks => .tup (nkDs ks)
def nkDs : List NestedKey → List D
  | [] => []
  | k :: ks => nkD k :: nkDs ks
end
/-- a dict whose keys are tuples: keys, where they stand, values -/
def DictN (P : Program) (w : World) (a : Addr) (xs : List (NestedKey × Addr × V)) : HO := .ext fun h => xs.length ≤ sizeLine ∧ (a == sysModules) = false ∧ (∀ x ∈ xs, x.1.depth ≤ 8) ∧ (xs.map (·.1)).Nodup ∧
  ∃ (ys : List (NestedKey × Addr × Value)) (o : Obj) (es : Array DictEntry) (ep : Nat), Paired (fun x y => x.1 = y.1 ∧ x.2.1 = y.2.1 ∧ RelV x.2.2 y.2.2) xs ys ∧ h.get? a = some o ∧ o.ExactDict ∧ o.data = .dict es ep ∧ es.toList = ys.map (entryOfKey (nestedKind P w))
/-- an exception that was caught -/
def ExC (cls : Value) (d : Option Addr) (a : Addr) : HO := .ext fun h => ∃ (oe : Obj) (vs : Array Value), h.get? a = some oe ∧ Zc cls d oe ∧ oe.data = .fields vs
abbrev Sto := List O
abbrev En := List (Option D)
inductive Rs (α : Type) where
  | ok (a : α) (S : Sto) | exc (c : Str) (fs : List (Str × D)) (S : Sto) | bad
def Rs.bind {α β : Type} (r : Rs α) (f : α → Sto → Rs β) : Rs β := match r with
  | .ok a S => f a S
  | .exc c fs S => .exc c fs S
  | .bad => .bad
@[simp] theorem bind_ok {α β : Type} (a : α) (S : Sto) (f : α → Sto → Rs β) : (Rs.ok a S).bind f = f a S := rfl
@[simp] theorem bind_exc {α β : Type} (c : Str) (fs : List (Str × D)) (S : Sto) (f : α → Sto → Rs β) : (Rs.exc c fs S).bind f = .exc c fs S := rfl
@[simp] theorem bind_bad {α β : Type} (f : α → Sto → Rs β) : (Rs.bad).bind f = .bad := rfl

/-! ### how data stands in the abstract heap -/
/-- a list that nothing changes: the script -/
def RdL (K : PySem.W.Frag) (H : Hp) (a : Addr) (xs : List V) : Prop := (∃ o, H a = some (.frz o (.lst xs))) ∨ SqL K (fun _ => none) a xs
theorem RdL.sq {K : PySem.W.Frag} {H : Hp} {a : Addr} {xs : List V} (h : RdL K H a xs) : SqL K H a xs := by
  rcases h with ⟨o, h⟩ | (h | ⟨o, h⟩) | h
  · exact .inl (.inr ⟨o, h⟩)
  · cases h
  · cases h
  · exact .inr h
mutual
def RD (K : KX) (p : List Addr) (H : Hp) : D → V → Prop
  | .non, v => v = .non
  | .bl b, v => v = .bl b
  | .int i, v => v = .int i
  | .str x, v => v = .str x
  | .tup ds, v => ∃ a vs, v = .ref a ∧ SqT K H a vs ∧ RDs K p H ds vs
  | .ref n, v => ∃ a, p[n]? = some a ∧ v = .ref a
  | .raw u, v => v = u
  | .rl ns, v => ∃ a, v = .ref a ∧ RdL K H a (ns.map V.int)
  | .ptp ds, v => ∃ a vs ob, v = .ref a ∧ H a = some (.frz ob (.tup vs)) ∧ ob.dict = none ∧ RDs K p H ds vs
def RDs (K : KX) (p : List Addr) (H : Hp) : List D → List V → Prop
  | [], vs => vs = []
  | d :: ds, vs => ∃ v r, vs = v :: r ∧ RD K p H d v ∧ RDs K p H ds r
end
def RKs (K : KX) (p : List Addr) (H : Hp) (kvs : List (Key × D)) (ws : List (Key × V)) : Prop :=
  kvs.map (·.1) = ws.map (·.1) ∧ RDs K p H (kvs.map (·.2)) (ws.map (·.2))
def RNs (K : KX) (p : List Addr) (H : Hp) (kvs : List (NestedKey × D)) (xs : List (NestedKey × Addr × V)) : Prop :=
  kvs.map (·.1) = xs.map (·.1) ∧ RDs K p H (kvs.map (·.2)) (xs.map (·.2.2)) ∧ RDs K p H (kvs.map fun kv => nkD kv.1) (xs.map fun x => .ref x.2.1)
def RO (K : KX) (p : List Addr) (H : Hp) (a : Addr) : O → HO → Prop
  | .lst ds, h => ∃ vs, h = .lst vs ∧ RDs K p H ds vs
  | .dk kvs, h => ∃ ws, h = .dK ws ∧ RKs K p H kvs ws
  | .fd kvs, h => ∃ ob ws, h = .frz ob (.dK ws) ∧ RKs K p H kvs ws
  | .dn kvs, h => ∃ xs, h = DictN K.P K.w a xs ∧ RNs K p H kvs xs
  | .fn kvs, h => ∃ ob xs, h = .frz ob (DictN K.P K.w a xs) ∧ RNs K p H kvs xs
  | .ex c fs, h => ∃ d, h = ExC (.ref (He.ga K.K c)) d a ∧ ((fs = [] ∧ d = none) ∨ fs ≠ [] ∧ ∃ dd ws, d = some dd ∧ H dd = some (.xd ws) ∧ fs.map (·.1) = ws.map (·.1) ∧ RDs K p H (fs.map (·.2)) (ws.map (·.2)))
  | .tb P q, h => a = P ∧ ∃ ps, h = .tbl ps ∧ TriplesOk ps.toList ∧ ∀ (pos : Pos) (cv : Value), codeAmong pos ps.toList = some cv → ∃ c, cv = .ref c ∧ H c = some (LamX.CodeO c q)
/-- tuples, lists that nothing changes, code objects stay -/
structure Keep (K : KX) (H H' : Hp) : Prop where
  tup : ∀ a xs, SqT K H a xs → SqT K H' a xs
  rdl : ∀ a xs, RdL K H a xs → RdL K H' a xs
  cod : ∀ c q, H c = some (LamX.CodeO c q) → H' c = some (LamX.CodeO c q)
  xd : ∀ a fs, H a = some (.xd fs) → H' a = some (.xd fs)
  ptp : ∀ a ob vs, H a = some (.frz ob (.tup vs)) → H' a = some (.frz ob (.tup vs))
/-- what may be written over: lists, dicts -/
def openO : HO → Bool
  | .lst _ => true
  | .dK _ => true
  | .dT _ => true
  | _ => false
/-- .. a lock's end, too; a table -/
def safeO : HO → Bool
  | .lst _ => true
  | .dK _ => true
  | .dT _ => true
  | .frz _ (.dK _) => true
  | .frz _ (.dT _) => true
  | .tbl _ => true
  | _ => false
theorem openO.safe {o : HO} (h : openO o = true) : safeO o = true := by
  cases o <;> first | rfl | cases h
/-- .. or a dict by tuples -/
def Open (o : HO) : Prop := openO o = true ∨ ∃ P w a xs, o = DictN P w a xs
def Safe (o : HO) : Prop := safeO o = true ∨ (∃ P w a xs, o = DictN P w a xs) ∨ ∃ ob P w a xs, o = .frz ob (DictN P w a xs)
theorem Open.safe {o : HO} (h : Open o) : Safe o := h.elim (fun h => .inl (openO.safe h)) fun h => .inr (.inl h)
theorem Open.frz {o : HO} (h : Open o) {ob : Obj} {u : HO} : o ≠ .frz ob u := by
  rintro rfl
  rcases h with h | ⟨P, w, a, xs, h⟩
  · cases h
  · cases h
/-- a code object is no dict -/
theorem code_dict {c : Addr} {q : Str} {P : Program} {w : World} {a : Addr} {xs : List (NestedKey × Addr × V)} (e : LamX.CodeO c q = DictN P w a xs) : False := by
  have e' := HO.ext.inj e
  have h0 : ∃ h : Heap, (∃ (oc : Obj) (vs : Array Value) (t : Tok), h.get? c = some oc ∧ oc.data = .fields vs ∧ vs[1]? = some (.str q t)) ∧ ∀ b o, h.get? b = some o → o.data = .fields #[.none, .str q 0] := by
    refine ⟨{ objs := Array.replicate (c + 1) { cls := .none, data := .fields #[.none, .str q 0] } }, ⟨{ cls := .none, data := .fields #[.none, .str q 0] }, #[.none, .str q 0], 0, ?_, rfl, rfl⟩, fun b o hb => ?_⟩
    · simp [Heap.get?]
    · unfold Heap.get? at hb
      by_cases hlt : b < c + 1
      · simp [hlt] at hb
        rw [← hb]
      · simp [hlt] at hb
  obtain ⟨h, h1, h2⟩ := h0
  have h3 := (congrFun e' h).mp h1
  obtain ⟨_, _, _, _, ys, o, es, ep, _, g1, _, g2, _⟩ := h3
  rw [h2 _ _ g1] at g2
  cases g2
structure RS (K : KX) (p : List Addr) (S : Sto) (H : Hp) : Prop where
  len : p.length = S.length
  nd : p.Nodup
  get : ∀ (n : Nat) a o, p[n]? = some a → S[n]? = some o → ∃ h, H a = some h ∧ RO K p H a o h
structure RE (K : KX) (p : List Addr) (H : Hp) (E : En) (σ : St) : Prop where
  len : E.length = σ.length
  get : ∀ (i : Nat) d, E[i]? = some (some d) → ∃ v, σ[i]? = some (some v) ∧ RD K p H d v
/-- the addresses so far come first -/
def Pre (p q : List Addr) : Prop := ∃ r, q = p ++ r
theorem Pre.refl (p : List Addr) : Pre p p := ⟨[], by simp⟩
theorem Pre.trans {p q r : List Addr} (a : Pre p q) (b : Pre q r) : Pre p r := by
  obtain ⟨x, rfl⟩ := a
  obtain ⟨y, rfl⟩ := b
  exact ⟨x ++ y, by simp⟩
theorem Pre.get {p q : List Addr} (a : Pre p q) {n : Nat} {x : Addr} (h : p[n]? = some x) : q[n]? = some x := by
  obtain ⟨r, rfl⟩ := a
  rw [List.getElem?_append_left (List.getElem?_eq_some_iff.mp h).1]
  exact h
theorem Pre.add (p : List Addr) (x : Addr) : Pre p (p ++ [x]) := ⟨[x], rfl⟩

section
variable {K : KX} {p q : List Addr} {H H' H2 : Hp} {S : Sto}
theorem Keep.refl (H : Hp) : Keep K H H := ⟨fun _ _ h => h, fun _ _ h => h, fun _ _ h => h, fun _ _ h => h, fun _ _ _ h => h⟩
theorem Keep.trans (a : Keep K H H') (b : Keep K H' H2) : Keep K H H2 := ⟨fun c xs h => b.tup c xs (a.tup c xs h), fun c xs h => b.rdl c xs (a.rdl c xs h), fun c q h => b.cod c q (a.cod c q h), fun c fs h => b.xd c fs (a.xd c fs h), fun c ob vs h => b.ptp c ob vs (a.ptp c ob vs h)⟩
/-- two heaps that agree at tuples, locked lists, code objects -/
theorem Keep.of (h : ∀ b o, H b = some o → ¬ Safe o → H' b = some o) : Keep K H H' where
  tup := fun b xs q => by
    rcases q with (e | ⟨ob, e⟩) | e
    · exact .inl (.inl (h _ _ e (by rintro (z | ⟨_, _, _, _, z⟩ | ⟨_, _, _, _, _, z⟩) <;> cases z)))
    · exact .inl (.inr ⟨ob, h _ _ e (by rintro (z | ⟨_, _, _, _, z⟩ | ⟨_, _, _, _, _, z⟩) <;> cases z)⟩)
    · exact .inr e
  rdl := fun b xs q => by
    rcases q with ⟨ob, e⟩ | e
    · exact .inl ⟨ob, h _ _ e (by rintro (z | ⟨_, _, _, _, z⟩ | ⟨_, _, _, _, _, z⟩) <;> cases z)⟩
    · exact .inr e
  cod := fun c q e => h _ _ e (by
    rintro (z | ⟨_, _, _, _, z⟩ | ⟨_, _, _, _, _, z⟩)
    · cases z
    · exact code_dict z
    · cases z)
  xd := fun b fs e => h _ _ e (by rintro (z | ⟨_, _, _, _, z⟩ | ⟨_, _, _, _, _, z⟩) <;> cases z)
  ptp := fun b ob vs e => h _ _ e (by rintro (z | ⟨_, _, _, _, z⟩ | ⟨_, _, _, _, _, z⟩) <;> cases z)
theorem Keep.new {a : Addr} {o : HO} (h : H a = none) : Keep K H (upd H a o) := Keep.of fun b ob e _ => by
  rw [upd_ne (ne_of_none e h)]; exact e
theorem Keep.set {a : Addr} {o o' : HO} (h : H a = some o) (hn : Safe o) : Keep K H (upd H a o') := Keep.of fun b ob e hs => by
  have : b ≠ a := fun z => by subst z; rw [h] at e; cases e; exact hs hn
  rw [upd_ne this]; exact e
mutual
theorem RD.mono (hp : Pre p q) (hk : Keep K H H') : ∀ {d : D} {v : V}, RD K p H d v → RD K q H' d v
  | .non, _, h => h
  | .bl _, _, h => h
  | .int _, _, h => h
  | .str _, _, h => h
  | .raw _, _, h => h
  | .rl ns, v, h => by
    obtain ⟨a, rfl, e⟩ := h
    exact ⟨a, rfl, hk.rdl _ _ e⟩
  | .ref n, v, h => by
    obtain ⟨a, e, rfl⟩ := h
    exact ⟨a, hp.get e, rfl⟩
  | .tup ds, v, h => by
    obtain ⟨a, vs, rfl, e, r⟩ := h
    exact ⟨a, vs, rfl, hk.tup _ _ e, RDs.mono hp hk r⟩
  | .ptp ds, v, h => by
    obtain ⟨a, vs, ob, rfl, e, d, r⟩ := h
    exact ⟨a, vs, ob, rfl, hk.ptp _ _ _ e, d, RDs.mono hp hk r⟩
theorem RDs.mono (hp : Pre p q) (hk : Keep K H H') : ∀ {ds : List D} {vs : List V}, RDs K p H ds vs → RDs K q H' ds vs
  | [], _, h => h
  | d :: ds, vs, h => by
    obtain ⟨v, r, rfl, h1, h2⟩ := h
    exact ⟨v, r, rfl, RD.mono hp hk h1, RDs.mono hp hk h2⟩
end
theorem RDs.length : ∀ {ds : List D} {vs : List V}, RDs K p H ds vs → ds.length = vs.length
  | [], _, h => by cases h; rfl
  | d :: ds, vs, h => by
    obtain ⟨v, r, rfl, _, h2⟩ := h
    simp [RDs.length h2]
theorem RDs.get : ∀ {ds : List D} {vs : List V} {i : Nat} {d : D}, RDs K p H ds vs → ds[i]? = some d → ∃ v, vs[i]? = some v ∧ RD K p H d v
  | [], _, _, _, _, e => by simp at e
  | d :: ds, vs, 0, d', h, e => by
    obtain ⟨v, r, rfl, h1, _⟩ := h
    simp at e; subst e
    exact ⟨v, rfl, h1⟩
  | d :: ds, vs, i + 1, d', h, e => by
    obtain ⟨v, r, rfl, _, h2⟩ := h
    obtain ⟨v', e', h'⟩ := RDs.get (i := i) h2 (by simpa using e)
    exact ⟨v', by simpa using e', h'⟩
theorem RDs.get' {ds : List D} {vs : List V} {i : Nat} {v : V} (h : RDs K p H ds vs) (e : vs[i]? = some v) : ∃ d, ds[i]? = some d ∧ RD K p H d v := by
  have hi : i < ds.length := by rw [h.length]; exact (List.getElem?_eq_some_iff.mp e).1
  obtain ⟨v', e', r⟩ := h.get (i := i) (d := ds[i]) (by simp [hi])
  rw [e] at e'; cases e'
  exact ⟨_, by simp [hi], r⟩
theorem RDs.append : ∀ {ds es : List D} {vs us : List V}, RDs K p H ds vs → RDs K p H es us → RDs K p H (ds ++ es) (vs ++ us)
  | [], _, _, _, h, h' => by cases h; exact h'
  | d :: ds, es, vs, us, h, h' => by
    obtain ⟨v, r, rfl, h1, h2⟩ := h
    exact ⟨v, r ++ us, rfl, h1, RDs.append h2 h'⟩
theorem RDs.one {d : D} {v : V} (h : RD K p H d v) : RDs K p H [d] [v] := ⟨v, [], rfl, h, rfl⟩
theorem RDs.take : ∀ {ds : List D} {vs : List V} (n : Nat), RDs K p H ds vs → RDs K p H (ds.take n) (vs.take n)
  | _, _, 0, _ => by simp; rfl
  | [], _, n + 1, h => by cases h; rfl
  | d :: ds, vs, n + 1, h => by
    obtain ⟨v, r, rfl, h1, h2⟩ := h
    exact ⟨v, r.take n, rfl, h1, RDs.take n h2⟩
theorem RDs.drop : ∀ {ds : List D} {vs : List V} (n : Nat), RDs K p H ds vs → RDs K p H (ds.drop n) (vs.drop n)
  | _, _, 0, h => by simpa using h
  | [], _, n + 1, h => by cases h; rfl
  | d :: ds, vs, n + 1, h => by
    obtain ⟨v, r, rfl, h1, h2⟩ := h
    simpa using RDs.drop n h2
theorem RDs.set : ∀ {ds : List D} {vs : List V} {d : D} {v : V} (i : Nat), RDs K p H ds vs → RD K p H d v → RDs K p H (ds.set i d) (vs.set i v)
  | [], _, _, _, _, h, _ => by cases h; rfl
  | d0 :: ds, vs, d, v, 0, h, r => by
    obtain ⟨v0, r0, rfl, h1, h2⟩ := h
    exact ⟨v, r0, rfl, r, h2⟩
  | d0 :: ds, vs, d, v, i + 1, h, r => by
    obtain ⟨v0, r0, rfl, h1, h2⟩ := h
    exact ⟨v0, r0.set i v, rfl, h1, RDs.set i h2 r⟩
theorem RDs.reverse : ∀ {ds : List D} {vs : List V}, RDs K p H ds vs → RDs K p H ds.reverse vs.reverse
  | [], _, h => by cases h; rfl
  | d :: ds, vs, h => by
    obtain ⟨v, r, rfl, h1, h2⟩ := h
    simp only [List.reverse_cons]
    exact RDs.append (RDs.reverse h2) (RDs.one h1)
theorem RKs.mono {kvs : List (Key × D)} {ws : List (Key × V)} (hp : Pre p q) (hk : Keep K H H') (h : RKs K p H kvs ws) : RKs K q H' kvs ws := ⟨h.1, h.2.mono hp hk⟩
theorem RNs.mono {kvs : List (NestedKey × D)} {xs : List (NestedKey × Addr × V)} (hp : Pre p q) (hk : Keep K H H') (h : RNs K p H kvs xs) : RNs K q H' kvs xs := ⟨h.1, h.2.1.mono hp hk, h.2.2.mono hp hk⟩
theorem RO.mono (hp : Pre p q) (hk : Keep K H H') {a : Addr} : ∀ {o : O} {h : HO}, RO K p H a o h → RO K q H' a o h
  | .lst ds, h, r => by
    obtain ⟨vs, rfl, r⟩ := r
    exact ⟨vs, rfl, r.mono hp hk⟩
  | .dk kvs, h, r => by
    obtain ⟨ws, rfl, r⟩ := r
    exact ⟨ws, rfl, r.mono hp hk⟩
  | .fd kvs, h, r => by
    obtain ⟨ob, ws, rfl, r⟩ := r
    exact ⟨ob, ws, rfl, r.mono hp hk⟩
  | .dn kvs, h, r => by
    obtain ⟨ws, rfl, r⟩ := r
    exact ⟨ws, rfl, r.mono hp hk⟩
  | .fn kvs, h, r => by
    obtain ⟨ob, ws, rfl, r⟩ := r
    exact ⟨ob, ws, rfl, r.mono hp hk⟩
  | .ex c fs, h, r => by
    obtain ⟨d, rfl, r⟩ := r
    refine ⟨d, rfl, r.imp id ?_⟩
    rintro ⟨e0, dd, ws, e1, e2, e3, e4⟩
    exact ⟨e0, dd, ws, e1, hk.xd _ _ e2, e3, e4.mono hp hk⟩
  | .tb P x, h, r => by
    obtain ⟨e, ps, rfl, h1, h2⟩ := r
    exact ⟨e, ps, rfl, h1, fun pos cv hc => let ⟨c, e1, e2⟩ := h2 pos cv hc; ⟨c, e1, hk.cod _ _ e2⟩⟩
/-- an object that is never changed -/
def O.isEx : O → Bool
  | .ex _ _ => true
  | _ => false
theorem RO.safe {a : Addr} : ∀ {o : O} {h : HO}, o.isEx = false → RO K p H a o h → Safe h
  | .lst ds, h, _, r => by obtain ⟨vs, rfl, r⟩ := r; exact .inl rfl
  | .dk kvs, h, _, r => by obtain ⟨ws, rfl, r⟩ := r; exact .inl rfl
  | .fd kvs, h, _, r => by obtain ⟨ob, ws, rfl, r⟩ := r; exact .inl rfl
  | .dn kvs, h, _, r => by obtain ⟨ws, rfl, r⟩ := r; exact .inr (.inl ⟨_, _, _, _, rfl⟩)
  | .fn kvs, h, _, r => by obtain ⟨ob, ws, rfl, r⟩ := r; exact .inr (.inr ⟨_, _, _, _, _, rfl⟩)
  | .ex c fs, h, e, r => by cases e
  | .tb P x, h, _, r => by obtain ⟨e, ps, rfl, _⟩ := r; exact .inl rfl
theorem RE.mono {E : En} {σ : St} (hp : Pre p q) (hk : Keep K H H') (h : RE K p H E σ) : RE K q H' E σ :=
  ⟨h.len, fun i d e => let ⟨v, e', r⟩ := h.get i d e; ⟨v, e', r.mono hp hk⟩⟩
theorem RE.set {E : En} {σ : St} {i : Nat} {d : D} {v : V} (h : RE K p H E σ) (r : RD K p H d v) : RE K p H (E.set i (some d)) (σ.set i (some v)) := by
  refine ⟨by simpa using h.len, fun j d' e => ?_⟩
  by_cases hj : i = j
  · subst hj
    rw [List.getElem?_set_self'] at e
    cases hq : E[i]? with
    | none => rw [hq] at e; cases e
    | some x =>
      rw [hq] at e
      have e : some d = some d' := Option.some.inj e
      cases e
      have hi : i < σ.length := by rw [← h.len]; exact (List.getElem?_eq_some_iff.mp hq).1
      exact ⟨v, by rw [List.getElem?_set_self hi], r⟩
  · rw [List.getElem?_set_ne hj] at e ⊢
    exact h.get j d' e
/-- some slots forgotten -/
theorem RE.weak {E E' : En} {σ : St} (h : RE K p H E σ) (hl : E'.length = E.length) (hw : ∀ (i : Nat) d, E'[i]? = some (some d) → E[i]? = some (some d)) : RE K p H E' σ :=
  ⟨hl.trans h.len, fun i d e => h.get i d (hw i d e)⟩
theorem RS.frame (h : RS K p S H) {a : Addr} {o : HO} (hn : H a = none) : RS K p S (upd H a o) :=
  ⟨h.len, h.nd, fun n b ob e1 e2 => by
    obtain ⟨x, e, r⟩ := h.get n b ob e1 e2
    exact ⟨x, by rw [upd_ne (ne_of_none e hn)]; exact e, r.mono (Pre.refl _) (Keep.new hn)⟩⟩
theorem RS.lt (h : RS K p S H) {n : Nat} {o : O} (e : S[n]? = some o) : ∃ a, p[n]? = some a := by
  have hn : n < p.length := by rw [h.len]; exact (List.getElem?_eq_some_iff.mp e).1
  exact ⟨p[n], by simp [hn]⟩
theorem RS.at' (h : RS K p S H) {n : Nat} {a : Addr} {o : O} (ea : p[n]? = some a) (e : S[n]? = some o) : ∃ x, H a = some x ∧ RO K p H a o x := h.get n a o ea e
/-- a new object of the store -/
theorem RS.alloc (h : RS K p S H) {a : Addr} {o : O} {x : HO} (hn : H a = none) (r : RO K p H a o x) : RS K (p ++ [a]) (S ++ [o]) (upd H a x) := by
  have fresh : a ∉ p := fun hm => by
    obtain ⟨n, hn', e⟩ := List.getElem_of_mem hm
    have e1 : p[n]? = some a := by simp [hn', e]
    have : n < S.length := by rw [← h.len]; exact hn'
    obtain ⟨y, e2, _⟩ := h.get n a S[n] e1 (by simp [this])
    rw [hn] at e2; cases e2
  refine ⟨by simp [h.len], ?_, fun n b ob e1 e2 => ?_⟩
  · rw [List.nodup_append]
    exact ⟨h.nd, by simp, fun x hx y hy z => fresh (by simp at hy; subst hy; subst z; exact hx)⟩
  · by_cases hl : n < p.length
    · rw [List.getElem?_append_left hl] at e1
      rw [List.getElem?_append_left (by rw [← h.len]; exact hl)] at e2
      obtain ⟨y, e, r'⟩ := h.get n b ob e1 e2
      exact ⟨y, by rw [upd_ne (ne_of_none e hn)]; exact e, r'.mono (Pre.add _ _) (Keep.new hn)⟩
    · have hl2 : n = p.length := by
        have := (List.getElem?_eq_some_iff.mp e1).1
        simp at this; omega
      subst hl2
      rw [List.getElem?_append_right (Nat.le_refl _)] at e1
      simp at e1; subst e1
      rw [h.len, List.getElem?_append_right (Nat.le_refl _)] at e2
      simp at e2; subst e2
      exact ⟨x, upd_same, r.mono (Pre.add _ _) (Keep.new hn)⟩
/-- an object of the store changed -/
theorem RS.set (h : RS K p S H) {n : Nat} {a : Addr} {o o' : O} {x x' : HO} (ea : p[n]? = some a) (e : S[n]? = some o) (ex : H a = some x) (hx : Safe x) (r : RO K p H a o' x') : RS K p (S.set n o') (upd H a x') := by
  refine ⟨by simp [h.len], h.nd, fun m b ob e1 e2 => ?_⟩
  by_cases hm : n = m
  · subst hm
    rw [ea] at e1; cases e1
    rw [List.getElem?_set_self (List.getElem?_eq_some_iff.mp e).1] at e2
    cases e2
    exact ⟨x', upd_same, r.mono (Pre.refl _) (Keep.set ex hx)⟩
  · rw [List.getElem?_set_ne hm] at e2
    obtain ⟨y, ey, r'⟩ := h.get m b ob e1 e2
    have hb : b ≠ a := fun z => by
      subst z
      obtain ⟨h1, q1⟩ := List.getElem?_eq_some_iff.mp ea
      obtain ⟨h2, q2⟩ := List.getElem?_eq_some_iff.mp e1
      exact hm ((List.getElem_inj h.nd).mp (q1.trans q2.symm))
    exact ⟨y, by rw [upd_ne hb]; exact ey, r'.mono (Pre.refl _) (Keep.set ex hx)⟩
end

/-- the addresses so far come first, tuples stay, what is not of the store stays -/
structure Ext (K : KX) (p : List Addr) (H : Hp) (q : List Addr) (H' : Hp) : Prop where
  pre : Pre p q
  tup : Keep K H H'
  frm : ∀ a o, a ∉ p → H a = some o → (∀ ps, o ≠ .tbl ps) → a ∉ q ∧ H' a = some o
  frz : ∀ a o u, H a = some (.frz o u) → H' a = some (.frz o u)
section
variable {K : KX} {p q r : List Addr} {H H' H2 : Hp} {S : Sto}
theorem Ext.refl (p : List Addr) (H : Hp) : Ext K p H p H := ⟨Pre.refl _, Keep.refl _, fun _ _ a b _ => ⟨a, b⟩, fun _ _ _ h => h⟩
theorem Ext.trans (a : Ext K p H q H') (b : Ext K q H' r H2) : Ext K p H r H2 :=
  ⟨a.pre.trans b.pre, a.tup.trans b.tup, fun c o h1 h2 h3 => let ⟨x, y⟩ := a.frm c o h1 h2 h3; b.frm c o x y h3, fun c o u h => b.frz c o u (a.frz c o u h)⟩
theorem Ext.new {a : Addr} {o : HO} (h : H a = none) : Ext K p H p (upd H a o) :=
  ⟨Pre.refl _, Keep.new h, fun b ob h1 h2 _ => ⟨h1, by rw [upd_ne (ne_of_none h2 h)]; exact h2⟩, fun b ob u h2 => by rw [upd_ne (ne_of_none h2 h)]; exact h2⟩
theorem Ext.alloc {a : Addr} {o : HO} (h : H a = none) : Ext K p H (p ++ [a]) (upd H a o) :=
  ⟨Pre.add _ _, Keep.new h, fun b ob h1 h2 _ => ⟨fun z => by
    rcases List.mem_append.mp z with z | z
    · exact h1 z
    · exact ne_of_none h2 h (by simpa using z), by rw [upd_ne (ne_of_none h2 h)]; exact h2⟩, fun b ob u h2 => by rw [upd_ne (ne_of_none h2 h)]; exact h2⟩
/-- an object of the store that is not locked is written -/
theorem Ext.set {a : Addr} {o o' : HO} (ha : a ∈ p) (h : H a = some o) (hn : Safe o) (hf : ∀ ob u, o ≠ .frz ob u) : Ext K p H p (upd H a o') :=
  ⟨Pre.refl _, Keep.set h hn, fun b ob h1 h2 _ => ⟨h1, by rw [upd_ne (fun z => h1 (by rw [z]; exact ha))]; exact h2⟩, fun b ob u h2 => by
    rw [upd_ne (fun z => by subst z; rw [h] at h2; cases h2; exact hf _ _ rfl)]; exact h2⟩
/-- what was locked since (p, H) is open again -/
theorem Ext.unlock {a : Addr} {o : HO} {ob : Obj} {u : HO} (x : Ext K p H q H') (ha : a ∈ p) (h : H a = some o) (hn : Open o) (h' : H' a = some (.frz ob u)) (hu : Safe (.frz ob u)) : Ext K p H q (upd H' a u) :=
  ⟨x.pre, x.tup.trans (Keep.set h' hu), fun b ob h1 h2 h3 => ⟨(x.frm b ob h1 h2 h3).1, by rw [upd_ne (fun z => h1 (by rw [z]; exact ha))]; exact (x.frm b ob h1 h2 h3).2⟩, fun b ob u h2 => by
    rw [upd_ne (fun z => by subst z; rw [h] at h2; cases h2; exact hn.frz rfl)]; exact x.frz _ _ _ h2⟩
end

/-! ### what is wanted behind a piece -/
abbrev XW := Str → List (Str × D) → Sto → List Addr → Hp → Prop
def post {α : Type} (K : KX) (W : XW) (p : List Addr) (H : Hp) (r : Rs α) (k : α → Sto → List Addr → Hp → Prop) : Prop := match r with
  | .ok a S' => ∀ p' H', Ext K p H p' H' → RS K p' S' H' → k a S' p' H'
  | .exc c fs S' => ∀ p' H', Ext K p H p' H' → RS K p' S' H' → W c fs S' p' H'
  | .bad => False
section
variable {K : KX} {W : XW} {p p' : List Addr} {H H' : Hp} {α β : Type}
theorem post_base {r : Rs α} {k : α → Sto → List Addr → Hp → Prop} (hx : Ext K p H p' H') (h : post K W p H r k) : post K W p' H' r k := by
  cases r with
  | ok a S => exact fun p2 H2 h1 h3 => h p2 H2 (hx.trans h1) h3
  | exc c fs S => exact fun p2 H2 h1 h3 => h p2 H2 (hx.trans h1) h3
  | bad => exact h
theorem post_mono {r : Rs α} {k k' : α → Sto → List Addr → Hp → Prop} (hk : ∀ a S p' H', Ext K p H p' H' → RS K p' S H' → k a S p' H' → k' a S p' H') (h : post K W p H r k) : post K W p H r k' := by
  cases r with
  | ok a S => exact fun p2 H2 h1 h3 => hk _ _ _ _ h1 h3 (h p2 H2 h1 h3)
  | exc c fs S => exact h
  | bad => exact h
theorem post_bind {r : Rs α} {f : α → Sto → Rs β} {k : β → Sto → List Addr → Hp → Prop} (h : post K W p H (r.bind f) k) : post K W p H r fun a S' p' H' => post K W p' H' (f a S') k := by
  cases r with
  | ok a S => exact fun p2 H2 h1 _ => post_base h1 h
  | exc c fs S => exact h
  | bad => exact h
theorem post_bindB {r : Rs α} {f : α → Sto → Rs β} {k : β → Sto → List Addr → Hp → Prop} (h : post K W p H (r.bind f) k) : post K W p H r fun a S' _ _ => post K W p H (f a S') k := by
  cases r with
  | ok a S => exact fun p2 H2 h1 _ => h
  | exc c fs S => exact h
  | bad => exact h
theorem post_ok {a : α} {S : Sto} {k : α → Sto → List Addr → Hp → Prop} (h : post K W p H (.ok a S) k) (hs : RS K p S H) : k a S p H := h p H (Ext.refl _ _) hs
end

/-! ### the readings -/
abbrev kE (K : KX) (Q : VK) : D → Sto → List Addr → Hp → Prop := fun d _ p' H' => ∀ v, RD K p' H' d v → Q v H'
def lE (K : KX) (W : XW) (m : En → Sto → Rs D) : TE := fun σ H Q => ∃ p S E, RS K p S H ∧ RE K p H E σ ∧ post K W p H (m E S) (kE K Q)
def lT (K : KX) (W : XW) (m : En → Sto → Rs Bool) : TT := fun σ H Q => ∃ p S E, RS K p S H ∧ RE K p H E σ ∧ post K W p H (m E S) fun b _ _ H' => Q b H'
def lA (K : KX) (W : XW) (m : En → Sto → Rs (List D)) : TA := fun σ H Q => ∃ p S E, RS K p S H ∧ RE K p H E σ ∧ post K W p H (m E S) fun ds _ p' H' => ∀ vs, RDs K p' H' ds vs → Q vs H'
inductive Fl where
  | nx (E : En) | rt (d : D) | bk (E : En) | ct (E : En)
def kS (K : KX) (Z : Ends) : Fl → Sto → List Addr → Hp → Prop := fun fl _ p' H' => match fl with
  | .nx E' => ∀ σ', RE K p' H' E' σ' → Z.nx σ' H'
  | .rt d => ∀ v, RD K p' H' d v → Z.rt v H'
  | .bk E' => ∀ σ', RE K p' H' E' σ' → Z.bk σ' H'
  | .ct E' => ∀ σ', RE K p' H' E' σ' → Z.ct σ' H'
def lS (K : KX) (W : XW) (m : En → Sto → Rs Fl) : TS := fun Z σ H => ∃ p S E, RS K p S H ∧ RE K p H E σ ∧ post K W p H (m E S) (kS K Z)
def lG (K : KX) (W : XW) (g : D → En → Sto → Rs En) : TG := fun v σ H Q => ∃ p S E d, RS K p S H ∧ RE K p H E σ ∧ RD K p H d v ∧ post K W p H (g d E S) fun E' _ p' H' => ∀ σ', RE K p' H' E' σ' → Q σ' H'
def lGs (K : KX) (W : XW) (g : List D → En → Sto → Rs En) : TGs := fun vs σ H Q => ∃ p S E ds, RS K p S H ∧ RE K p H E σ ∧ RDs K p H ds vs ∧ post K W p H (g ds E S) fun E' _ p' H' => ∀ σ', RE K p' H' E' σ' → Q σ' H'
abbrev ME (X : Cx) (W : XW) (e : Expr) (m : En → Sto → Rs D) : Prop := PE X e (lE (gX X) W m)
abbrev MT (X : Cx) (W : XW) (e : Expr) (m : En → Sto → Rs Bool) : Prop := PT X e (lT (gX X) W m)
abbrev MW (X : Cx) (W : XW) (e : Expr) (m : En → Sto → Rs Bool) : Prop := PW X e (lT (gX X) W m)
abbrev MA (X : Cx) (W : XW) (es : List Expr) (m : En → Sto → Rs (List D)) : Prop := PA X es (lA (gX X) W m)
abbrev MS (X : Cx) (W : XW) (st : Stmt) (m : En → Sto → Rs Fl) : Prop := PS X st (lS (gX X) W m)
abbrev MSs (X : Cx) (W : XW) (st : List Stmt) (m : En → Sto → Rs Fl) : Prop := PSs X st (lS (gX X) W m)
abbrev MG (X : Cx) (W : XW) (tg : Expr) (g : D → En → Sto → Rs En) : Prop := PG X tg (lG (gX X) W g)
abbrev MGs (X : Cx) (W : XW) (tgs : List Expr) (g : List D → En → Sto → Rs En) : Prop := PGs X tgs (lGs (gX X) W g)

/-! ### readings weakened -/
section
variable {X : Cx}
theorem PE.imp {e : Expr} {t t' : TE} (h : PE X e t) (hi : ∀ σ H Q, t' σ H Q → t σ H Q) : PE X e t' := ⟨fun pins s σ H Q I hw => h.run pins s σ H Q I (hi σ H Q hw)⟩
theorem PT.imp {e : Expr} {t t' : TT} (h : PT X e t) (hi : ∀ σ H Q, t' σ H Q → t σ H Q) : PT X e t' := ⟨fun pins s σ H Q I hw => h.run pins s σ H Q I (hi σ H Q hw)⟩
theorem PW.imp {e : Expr} {t t' : TT} (h : PW X e t) (hi : ∀ σ H Q, t' σ H Q → t σ H Q) : PW X e t' := ⟨fun wh pins s σ H Q I hw => h.run wh pins s σ H Q I (hi σ H Q hw)⟩
theorem PA.imp {es : List Expr} {t t' : TA} (h : PA X es t) (hi : ∀ σ H Q, t' σ H Q → t σ H Q) : PA X es t' := ⟨fun pos pins s σ H Q I hw => h.run pos pins s σ H Q I (hi σ H Q hw)⟩
theorem PS.imp {st : Stmt} {t t' : TS} (h : PS X st t) (hi : ∀ Z σ H, t' Z σ H → t Z σ H) : PS X st t' := ⟨fun pins s σ H Z I hw => h.run pins s σ H Z I (hi Z σ H hw)⟩
theorem PSs.imp {st : List Stmt} {t t' : TS} (h : PSs X st t) (hi : ∀ Z σ H, t' Z σ H → t Z σ H) : PSs X st t' := ⟨fun pins s σ H Z I hw => h.run pins s σ H Z I (hi Z σ H hw)⟩
theorem PG.imp {tg : Expr} {t t' : TG} (h : PG X tg t) (hi : ∀ v σ H Q, t' v σ H Q → t v σ H Q) : PG X tg t' := ⟨fun pins s σ H v u Q I r hw => h.run pins s σ H v u Q I r (hi v σ H Q hw)⟩
theorem PGs.imp {tgs : List Expr} {t t' : TGs} (h : PGs X tgs t) (hi : ∀ vs σ H Q, t' vs σ H Q → t vs σ H Q) : PGs X tgs t' := ⟨fun pins s σ H vs us Q I r hw => h.run pins s σ H vs us Q I r (hi vs σ H Q hw)⟩
theorem PI.imp {tg iter : Expr} {t t' : TI} (h : PI X tg iter t) (hi : ∀ σ H R, t' σ H R → t σ H R) : PI X tg iter t' := ⟨fun pins s σ H R I hw => h.run pins s σ H R I (hi σ H R hw)⟩
end
end M

namespace M
open PySem L2
section
variable {X : Cx} {W : XW}

/-! ### names, constants -/
def mC (d : D) : En → Sto → Rs D := fun _ S => .ok d S
def mV (i : Nat) : En → Sto → Rs D := fun E S => match E[i]? with
  | some (some d) => .ok d S
  | _ => .bad
theorem lE_C {d : D} {v : V} (h : ∀ p H, RD (gX X) p H d v) {σ : St} {H : Hp} {Q : VK} (q : lE (gX X) W (mC d) σ H Q) : Q v H := by
  obtain ⟨p, S, E, hs, he, q⟩ := q
  exact post_ok q hs v (h p H)
theorem me_int {i : Int} {j : Nat} {pos : Pos} : ME X W (.Constant (.int i) j pos) (mC (.int i)) := PE.imp pe_int fun _ _ _ q => lE_C (d := .int i) (v := .int i) (fun _ _ => rfl) q
theorem me_bl {b : Bool} {j : Nat} {pos : Pos} : ME X W (.Constant (.bool b) j pos) (mC (.bl b)) := PE.imp pe_bl fun _ _ _ q => lE_C (d := .bl b) (v := .bl b) (fun _ _ => rfl) q
theorem me_non {j : Nat} {pos : Pos} : ME X W (.Constant .none j pos) (mC .non) := PE.imp pe_non fun _ _ _ q => lE_C (d := .non) (v := .non) (fun _ _ => rfl) q
theorem me_str {x : Str} {j : Nat} {pos : Pos} : ME X W (.Constant (.str x) j pos) (mC (.str x)) := PE.imp pe_str fun _ _ _ q => lE_C (d := .str x) (v := .str x) (fun _ _ => rfl) q
/-- a constant of the module -/
theorem me_glob {x : Str} {v : V} {u : Value} {d : D} {pos : Pos} (hg : Gl X x) (hm : X.mg x = some u) (r : RelV v u) (h : ∀ p H, RD (gX X) p H d v) (hd : (x == ("__debug__" : Str)) = false := by decide) : ME X W (.Name x pos) (mC d) :=
  PE.imp (pe_glob hg hm r hd) fun _ _ _ q => lE_C h q
theorem me_bltn {x : Str} {v : V} {u : Value} {pos : Pos} (hg : Gl X x) (hm : X.mg x = none) (hv : bootBuiltins x = some u) (r : RelV v u) (hn : x ≠ "__name__" := by decide) (hd : (x == ("__debug__" : Str)) = false := by decide) : ME X W (.Name x pos) (mC (.raw v)) :=
  PE.imp (pe_bltn hg hm hv r hn hd) fun _ _ _ q => lE_C (d := .raw v) (v := v) (fun _ _ => rfl) q
theorem lE_V {i : Nat} {σ : St} {H : Hp} {Q : VK} (q : lE (gX X) W (mV i) σ H Q) : tVar i σ H Q := by
  obtain ⟨p, S, E, hs, he, q⟩ := q
  unfold mV at q
  split at q
  · rename_i d hd
    obtain ⟨v, e, r⟩ := he.get i d hd
    exact ⟨v, e, post_ok q hs v r⟩
  · exact q.elim
theorem mv (i : Nat) {x : Str} {pos : Pos} (hN : X.N[i]? = some x := by rfl) (hv : Vis X.env.scope x := by first | exact Or.inl rfl | exact Or.inr (Or.inl rfl) | exact Or.inr (Or.inr rfl)) (hd : (x == ("__debug__" : Str)) = false := by decide)
    (hcd : (x == ("__classdict__" : Str)) = false := by decide) : ME X W (.Name x pos) (mV i) := PE.imp (pe_var hN hv hd hcd) fun _ _ _ q => lE_V q

/-! ### two in a row -/
def m2 (f : D → D → Sto → Rs D) (ma mb : En → Sto → Rs D) : En → Sto → Rs D := fun E S => (ma E S).bind fun x S1 => (mb E S1).bind fun y S2 => f x y S2
def m1 (f : D → Sto → Rs D) (ma : En → Sto → Rs D) : En → Sto → Rs D := fun E S => (ma E S).bind fun x S1 => f x S1
def Prim2 (K : KX) (W : XW) (r : R2) (f : D → D → Sto → Rs D) : Prop := ∀ (p : List Addr) (S : Sto) (H : Hp) (x y : D) (v u : V) (Q : VK), RS K p S H → RD K p H x v → RD K p H y u → post K W p H (f x y S) (kE K Q) → r v u H Q
def Prim1 (K : KX) (W : XW) (r : V → Hp → VK → Prop) (f : D → Sto → Rs D) : Prop := ∀ (p : List Addr) (S : Sto) (H : Hp) (x : D) (v : V) (Q : VK), RS K p S H → RD K p H x v → post K W p H (f x S) (kE K Q) → r v H Q
def PrimN (K : KX) (W : XW) (r : List V → Hp → VK → Prop) (f : List D → Sto → Rs D) : Prop := ∀ (p : List Addr) (S : Sto) (H : Hp) (xs : List D) (vs : List V) (Q : VK), RS K p S H → RDs K p H xs vs → post K W p H (f xs S) (kE K Q) → r vs H Q
def PrimM (K : KX) (W : XW) (r : V → List V → Hp → VK → Prop) (f : D → List D → Sto → Rs D) : Prop := ∀ (p : List Addr) (S : Sto) (H : Hp) (x : D) (xs : List D) (v : V) (vs : List V) (Q : VK), RS K p S H → RD K p H x v → RDs K p H xs vs → post K W p H (f x xs S) (kE K Q) → r v vs H Q
/-- the first of two pieces, and what is left for the second -/
theorem lE_step {K : KX} {m : En → Sto → Rs D} {E : En} {S : Sto} {p : List Addr} {σ : St} {H : Hp} {Q : VK} (hs : RS K p S H) (he : RE K p H E σ) (h : post K W p H (m E S) (kE K Q)) : lE K W m σ H Q := ⟨p, S, E, hs, he, h⟩
theorem m2_read {r : R2} {f : D → D → Sto → Rs D} {ma mb : En → Sto → Rs D} (hp : Prim2 (gX X) W r f) {σ : St} {H : Hp} {Q : VK} (q : lE (gX X) W (m2 f ma mb) σ H Q) : tOp r (lE (gX X) W ma) (lE (gX X) W mb) σ H Q := by
  obtain ⟨p, S, E, hs, he, q⟩ := q
  refine lE_step hs he (post_mono (fun x S1 p1 H1 x1 hs1 q1 v rv => ?_) (post_bind q))
  refine lE_step hs1 (he.mono x1.pre x1.tup) (post_mono (fun y S2 p2 H2 x2 hs2 q2 u ru => ?_) (post_bind q1))
  exact hp p2 S2 H2 x y v u Q hs2 (rv.mono x2.pre x2.tup) ru q2
theorem me_op {a b : Expr} {pos : Pos} {op : Operator} {r : R2} {f : D → D → Sto → Rs D} {ma mb : En → Sto → Rs D} (ho : OpR X (binaryOp op) r) (hp : Prim2 (gX X) W r f) (ha : ME X W a ma) (hb : ME X W b mb) : ME X W (.BinOp a op b pos) (m2 f ma mb) :=
  PE.imp (pe_op ho ha hb) fun _ _ _ q => m2_read hp q
theorem me_cmp {a b : Expr} {pos : Pos} {op : CmpOp} {r : R2} {f : D → D → Sto → Rs D} {ma mb : En → Sto → Rs D} (ho : OpR X (compareOp op) r) (hp : Prim2 (gX X) W r f) (ha : ME X W a ma) (hb : ME X W b mb) (hm : behindInMarks op b = false) : ME X W (.Compare a [op] [b] pos) (m2 f ma mb) :=
  PE.imp (pe_cmpR ho ha hb hm) fun _ _ _ q => m2_read hp q
theorem me_ix {a b : Expr} {pos : Pos} {r : R2} {f : D → D → Sto → Rs D} {ma mb : En → Sto → Rs D} (ho : IxR X r) (hp : Prim2 (gX X) W r f) (ha : ME X W a ma) (hb : ME X W b mb) (hs : PlainIx b) : ME X W (.Subscript a b pos) (m2 f ma mb) :=
  PE.imp (pe_ix ho ha hb hs) fun _ _ _ q => m2_read hp q
theorem me_un {a : Expr} {pos : Pos} {op : UnaryOp} {r : V → Hp → VK → Prop} {f : D → Sto → Rs D} {ma : En → Sto → Rs D} (ho : UnR X (unaryOp op) r) (hp : Prim1 (gX X) W r f) (ha : ME X W a ma) : ME X W (.UnaryOp op a pos) (m1 f ma) :=
  PE.imp (pe_un ho ha) fun σ H Q q => by
    obtain ⟨p, S, E, hs, he, q⟩ := q
    refine lE_step hs he (post_mono (fun x S1 p1 H1 x1 hs1 q1 v rv => ?_) (post_bind q))
    exact hp p1 S1 H1 x v Q hs1 rv q1

/-! ### tests -/
/-- the test of a value that is a truth -/
def asB (d : D) (S : Sto) : Rs Bool := match d with
  | .bl b => .ok b S
  | _ => .bad
def tB (m : En → Sto → Rs D) : En → Sto → Rs Bool := fun E S => (m E S).bind asB
/-- a value's truth -/
def truth (d : D) (S : Sto) : Rs Bool := match d with
  | .non => .ok false S
  | .bl b => .ok b S
  | .int i => .ok (i != 0) S
  | .str x => if x.length ≤ sizeLine then .ok ((x.length : Int) != 0) S else .bad
  | .ptp ds => .ok (!ds.isEmpty) S
  | .tup ds => .ok (!ds.isEmpty) S
  | .ref n => match S[n]? with
    | some (.lst ds) => .ok (!ds.isEmpty) S
    | some (.dk kvs) => .ok (!kvs.isEmpty) S
    | _ => .bad
  | .raw _ => .bad
  | .rl ns => .ok (!ns.isEmpty) S
def tV (m : En → Sto → Rs D) : En → Sto → Rs Bool := fun E S => (m E S).bind truth
theorem asB_read {p : List Addr} {S : Sto} {H : Hp} {d : D} {v : V} {k : Bool → Sto → List Addr → Hp → Prop} (hs : RS (gX X) p S H) (r : RD (gX X) p H d v) (q : post (gX X) W p H (asB d S) k) : ∃ c, v = .bl c ∧ k c S p H := by
  unfold asB at q
  split at q
  · rename_i b
    exact ⟨b, r, post_ok q hs⟩
  · exact q.elim
theorem mt_cmp {a b : Expr} {pos : Pos} {op : CmpOp} {r : R2} {f : D → D → Sto → Rs D} {ma mb : En → Sto → Rs D} (ho : OpR X (compareOp op) r) (hp : Prim2 (gX X) W r f) (ha : ME X W a ma) (hb : ME X W b mb) (hm : behindInMarks op b = false) : MT X W (.Compare a [op] [b] pos) (tB (m2 f ma mb)) :=
  PT.imp (pt_cmpR ho ha hb hm) fun σ H Q q => by
    obtain ⟨p, S, E, hs, he, q⟩ := q
    refine m2_read hp (lE_step hs he (post_mono (fun x S1 p1 H1 x1 hs1 q1 v rv => ?_) (post_bind q)))
    exact asB_read hs1 rv q1
theorem mt_val {e : Expr} {m : En → Sto → Rs D} (h : ME X W e m) (he : ∀ whole, isTrue e X.env whole = (do let v ← whole; standAt e.pos; holding [v] (truthy v)) := by intro _; rfl) : MT X W e (tB m) :=
  PT.imp (pt_val h he) fun σ H Q q => by
    obtain ⟨p, S, E, hs, he, q⟩ := q
    refine lE_step hs he (post_mono (fun x S1 p1 H1 x1 hs1 q1 v rv => ?_) (post_bind q))
    exact asB_read hs1 rv q1
theorem isEmpty_of_length {α β : Type} {a : List α} {b : List β} (h : a.length = b.length) : a.isEmpty = b.isEmpty := by
  cases a <;> cases b <;> first | rfl | simp at h
theorem truth_read {p : List Addr} {S : Sto} {H : Hp} {d : D} {v : V} {k : Bool → Sto → List Addr → Hp → Prop} (hs : RS (gX X) p S H) (r : RD (gX X) p H d v) (q : post (gX X) W p H (truth d S) k) : ∃ c, TruV X.K v H c ∧ k c S p H := by
  unfold truth at q
  cases d with
  | non => obtain rfl : v = V.non := r; exact ⟨false, rfl, post_ok q hs⟩
  | bl b => obtain rfl : v = V.bl b := r; exact ⟨b, rfl, post_ok q hs⟩
  | int i => obtain rfl : v = V.int i := r; exact ⟨_, rfl, post_ok q hs⟩
  | str x =>
    obtain rfl : v = V.str x := r
    simp only at q
    split at q
    · rename_i hl
      exact ⟨_, ⟨hl, rfl⟩, post_ok q hs⟩
    · exact q.elim
  | tup ds =>
    obtain ⟨a, vs, rfl, e, rs⟩ := r
    refine ⟨!ds.isEmpty, .inr (.inl ⟨vs, e, ?_⟩), post_ok q hs⟩
    rw [isEmpty_of_length rs.length]
  | ptp ds =>
    obtain ⟨a, vs, ob, rfl, e, _, rs⟩ := r
    refine ⟨!ds.isEmpty, .inr (.inl ⟨vs, .inl (.inr ⟨ob, e⟩), ?_⟩), post_ok q hs⟩
    rw [isEmpty_of_length rs.length]
  | ref n =>
    obtain ⟨a, ea, rfl⟩ := r
    simp only at q
    split at q
    · rename_i ds hd
      obtain ⟨x, ex, vs, rfl, rs⟩ := hs.get n a _ ea hd
      refine ⟨!ds.isEmpty, .inl ⟨vs, .of ex, ?_⟩, post_ok q hs⟩
      rw [isEmpty_of_length rs.length]
    · rename_i kvs hd
      obtain ⟨x, ex, ws, rfl, hk, rs⟩ := hs.get n a _ ea hd
      refine ⟨!kvs.isEmpty, .inr (.inr ⟨ws, ex, ?_⟩), post_ok q hs⟩
      rw [isEmpty_of_length (a := kvs) (b := ws) (by simpa using congrArg List.length hk)]
    · exact q.elim
  | raw u => exact q.elim
  | rl ns =>
    obtain ⟨a, rfl, e⟩ := r
    exact ⟨!ns.isEmpty, .inl ⟨_, e.sq, by rw [isEmpty_of_length (List.length_map _)]⟩, post_ok q hs⟩
theorem mt_truth {e : Expr} {m : En → Sto → Rs D} (h : ME X W e m) (he : ∀ whole, isTrue e X.env whole = (do let v ← whole; standAt e.pos; holding [v] (truthy v)) := by intro _; rfl) : MT X W e (tV m) :=
  PT.imp (pt_truth h he) fun σ H Q q => by
    obtain ⟨p, S, E, hs, he, q⟩ := q
    refine lE_step hs he (post_mono (fun x S1 p1 H1 x1 hs1 q1 v rv => ?_) (post_bind q))
    exact truth_read hs1 rv q1
def tAndM (a b : En → Sto → Rs Bool) : En → Sto → Rs Bool := fun E S => (a E S).bind fun c S1 => if c = true then b E S1 else .ok false S1
def tOrM (a b : En → Sto → Rs Bool) : En → Sto → Rs Bool := fun E S => (a E S).bind fun c S1 => if c = true then .ok true S1 else b E S1
def tNotM (a : En → Sto → Rs Bool) : En → Sto → Rs Bool := fun E S => (a E S).bind fun c S1 => .ok (!c) S1
variable {a b : Expr} {pos : Pos} {rest : List Expr} {ma mb : En → Sto → Rs Bool}
theorem mw_and1 (ha : MT X W a ma) : MW X W (.BoolOp .And [a] pos) ma := pw_and1 ha
theorem mw_or1 (ha : MT X W a ma) : MW X W (.BoolOp .Or [a] pos) ma := pw_or1 ha
theorem mw_and (ha : MT X W a ma) (hb : MW X W (.BoolOp .And (b :: rest) pos) mb) : MW X W (.BoolOp .And (a :: b :: rest) pos) (tAndM ma mb) :=
  PW.imp (pw_and ha hb) fun σ H Q q => by
    obtain ⟨p, S, E, hs, he, q⟩ := q
    refine ⟨p, S, E, hs, he, post_mono (fun c S1 p1 H1 x1 hs1 q1 => ?_) (post_bind q)⟩
    cases c with
    | true => exact ⟨p1, S1, E, hs1, he.mono x1.pre x1.tup, q1⟩
    | false => exact post_ok q1 hs1
theorem mw_or (ha : MT X W a ma) (hb : MW X W (.BoolOp .Or (b :: rest) pos) mb) : MW X W (.BoolOp .Or (a :: b :: rest) pos) (tOrM ma mb) :=
  PW.imp (pw_or ha hb) fun σ H Q q => by
    obtain ⟨p, S, E, hs, he, q⟩ := q
    refine ⟨p, S, E, hs, he, post_mono (fun c S1 p1 H1 x1 hs1 q1 => ?_) (post_bind q)⟩
    cases c with
    | false => exact ⟨p1, S1, E, hs1, he.mono x1.pre x1.tup, q1⟩
    | true => exact post_ok q1 hs1
theorem mt_not (ha : MT X W a ma) : MT X W (.UnaryOp .Not a pos) (tNotM ma) :=
  PT.imp (pt_not ha) fun σ H Q q => by
    obtain ⟨p, S, E, hs, he, q⟩ := q
    exact ⟨p, S, E, hs, he, post_mono (fun c S1 p1 H1 x1 hs1 q1 => post_ok q1 hs1) (post_bind (f := fun c S1 => Rs.ok (!c) S1) q)⟩
/-! and, or, not as values, by truth -/
variable {na nb : En → Sto → Rs D}
def vAnd (a b : En → Sto → Rs D) : En → Sto → Rs D := fun E S => (a E S).bind fun d S1 => (truth d S1).bind fun c S2 => if c = true then b E S2 else .ok d S2
def vOr (a b : En → Sto → Rs D) : En → Sto → Rs D := fun E S => (a E S).bind fun d S1 => (truth d S1).bind fun c S2 => if c = true then .ok d S2 else b E S2
def vNot (a : En → Sto → Rs D) : En → Sto → Rs D := fun E S => (a E S).bind fun d S1 => (truth d S1).bind fun c S2 => .ok (.bl (!c)) S2
theorem me_one {op : BoolOp} (h : ME X W a na) : ME X W (.BoolOp op [a] pos) na := pe_one h
theorem me_and (ha : ME X W a na) (hb : ME X W (.BoolOp .And (b :: rest) pos) nb) : ME X W (.BoolOp .And (a :: b :: rest) pos) (vAnd na nb) :=
  PE.imp (pe_andT ha hb) fun σ H Q q => by
    obtain ⟨p, S, E, hs, he, q⟩ := q
    refine ⟨p, S, E, hs, he, post_mono (fun d S1 p1 H1 x1 hs1 q1 v rv => ?_) (post_bind q)⟩
    obtain ⟨c, tr, q2⟩ := truth_read hs1 rv (post_bind q1)
    refine ⟨c, tr, ?_⟩
    cases c with
    | true => exact ⟨p1, S1, E, hs1, he.mono x1.pre x1.tup, q2⟩
    | false => exact post_ok q2 hs1 v rv
theorem me_or (ha : ME X W a na) (hb : ME X W (.BoolOp .Or (b :: rest) pos) nb) : ME X W (.BoolOp .Or (a :: b :: rest) pos) (vOr na nb) :=
  PE.imp (pe_orT ha hb) fun σ H Q q => by
    obtain ⟨p, S, E, hs, he, q⟩ := q
    refine ⟨p, S, E, hs, he, post_mono (fun d S1 p1 H1 x1 hs1 q1 v rv => ?_) (post_bind q)⟩
    obtain ⟨c, tr, q2⟩ := truth_read hs1 rv (post_bind q1)
    refine ⟨c, tr, ?_⟩
    cases c with
    | false => exact ⟨p1, S1, E, hs1, he.mono x1.pre x1.tup, q2⟩
    | true => exact post_ok q2 hs1 v rv
theorem me_not (ha : ME X W a na) : ME X W (.UnaryOp .Not a pos) (vNot na) :=
  PE.imp (pe_notT ha) fun σ H Q q => by
    obtain ⟨p, S, E, hs, he, q⟩ := q
    refine ⟨p, S, E, hs, he, post_mono (fun d S1 p1 H1 x1 hs1 q1 v rv => ?_) (post_bind q)⟩
    obtain ⟨c, tr, q2⟩ := truth_read hs1 rv (post_bind q1)
    exact ⟨c, tr, post_ok q2 hs1 _ rfl⟩
def mIfE (t : En → Sto → Rs Bool) (a b : En → Sto → Rs D) : En → Sto → Rs D := fun E S => (t E S).bind fun c S1 => if c = true then a E S1 else b E S1
theorem me_if {c : Expr} {mc : En → Sto → Rs Bool} (hc : MT X W c mc) (ha : ME X W a na) (hb : ME X W b nb) : ME X W (.IfExp c a b pos) (mIfE mc na nb) :=
  PE.imp (pe_ifExp hc ha hb) fun σ H Q q => by
    obtain ⟨p, S, E, hs, he, q⟩ := q
    refine ⟨p, S, E, hs, he, post_mono (fun d S1 p1 H1 x1 hs1 q1 => ?_) (post_bind q)⟩
    cases d with
    | true => exact ⟨p1, S1, E, hs1, he.mono x1.pre x1.tup, q1⟩
    | false => exact ⟨p1, S1, E, hs1, he.mono x1.pre x1.tup, q1⟩

/-! ### argument lists, displays -/
def aNil : En → Sto → Rs (List D) := fun _ S => .ok [] S
def aCons (a : En → Sto → Rs D) (r : En → Sto → Rs (List D)) : En → Sto → Rs (List D) := fun E S => (a E S).bind fun x S1 => (r E S1).bind fun xs S2 => .ok (x :: xs) S2
theorem ma_nil : MA X W [] aNil := PA.imp pa_nil fun σ H Q q => by
  obtain ⟨p, S, E, hs, he, q⟩ := q
  exact post_ok q hs [] rfl
theorem ma_cons {es : List Expr} {r : En → Sto → Rs (List D)} (ha : ME X W a na) (hr : MA X W es r) (hs : starEach (a :: es) X.env = (false, eval a X.env) :: starEach es X.env := by rfl) : MA X W (a :: es) (aCons na r) :=
  PA.imp (pa_cons ha hr hs) fun σ H Q q => by
    obtain ⟨p, S, E, hs, he, q⟩ := q
    refine ⟨p, S, E, hs, he, post_mono (fun d S1 p1 H1 x1 hs1 q1 v rv => ?_) (post_bind q)⟩
    refine ⟨p1, S1, E, hs1, he.mono x1.pre x1.tup, post_mono (fun ds S2 p2 H2 x2 hs2 q2 vs rvs => ?_) (post_bind q1)⟩
    exact post_ok q2 hs2 (v :: vs) ⟨v, vs, rfl, rv.mono x2.pre x2.tup, rvs⟩
def mTup (t : En → Sto → Rs (List D)) : En → Sto → Rs D := fun E S => (t E S).bind fun ds S1 => if ds.length ≤ sizeLine then .ok (.tup ds) S1 else .bad
def mLst (t : En → Sto → Rs (List D)) : En → Sto → Rs D := fun E S => (t E S).bind fun ds S1 => if ds.length ≤ sizeLine then .ok (.ref S1.length) (S1 ++ [.lst ds]) else .bad
/-- a new tuple -/
theorem new_tup {K : KX} {p : List Addr} {S : Sto} {H : Hp} {ds : List D} {vs : List V} {Q : VK} (hs : RS K p S H) (r : RDs K p H ds vs) (q : post K W p H (.ok (.tup ds) S) (kE K Q)) {a : Addr} (ha : H a = none) : Q (.ref a) (upd H a (.tup vs)) :=
  q p _ (Ext.new ha) (hs.frame ha) (.ref a) ⟨a, vs, rfl, .of upd_same, r.mono (Pre.refl _) (Keep.new ha)⟩
/-- a new object of the store -/
theorem new_obj {K : KX} {p : List Addr} {S : Sto} {H : Hp} {o : O} {x : HO} {Q : VK} {a : Addr} (hs : RS K p S H) (r : RO K p H a o x) (q : post K W p H (.ok (.ref S.length) (S ++ [o])) (kE K Q)) (ha : H a = none) : Q (.ref a) (upd H a x) := by
  refine q (p ++ [a]) _ (Ext.alloc ha) (hs.alloc ha r) (.ref a) ⟨a, ?_, rfl⟩
  rw [← hs.len]; simp
theorem me_tup {es : List Expr} {t : En → Sto → Rs (List D)} {x1 : Nat} (h : MA X W es t) : ME X W (.Tuple es x1 pos) (mTup t) :=
  PE.imp (pe_tup h) fun σ H Q q => by
    obtain ⟨p, S, E, hs, he, q⟩ := q
    refine ⟨p, S, E, hs, he, post_mono (fun ds S1 p1 H1 x1 hs1 q1 vs rvs => ?_) (post_bind q)⟩
    split at q1
    · rename_i hl
      exact ⟨by rw [← rvs.length]; exact hl, fun a ha => new_tup hs1 rvs q1 ha⟩
    · exact q1.elim
theorem me_lst {es : List Expr} {t : En → Sto → Rs (List D)} (h : MA X W es t) : ME X W (.List es pos) (mLst t) :=
  PE.imp (pe_lst h) fun σ H Q q => by
    obtain ⟨p, S, E, hs, he, q⟩ := q
    refine ⟨p, S, E, hs, he, post_mono (fun ds S1 p1 H1 x1 hs1 q1 vs rvs => ?_) (post_bind q)⟩
    split at q1
    · rename_i hl
      exact ⟨by rw [← rvs.length]; exact hl, fun a ha => new_obj hs1 (o := .lst ds) ⟨vs, rfl, rvs⟩ q1 ha⟩
    · exact q1.elim
/-- a call of a built-in by values -/
def mN (f : List D → Sto → Rs D) (t : En → Sto → Rs (List D)) : En → Sto → Rs D := fun E S => (t E S).bind fun ds S1 => f ds S1
theorem mN_read {r : List V → Hp → VK → Prop} {f : List D → Sto → Rs D} {t : En → Sto → Rs (List D)} (hp : PrimN (gX X) W r f) {σ : St} {H : Hp} {Q : VK} (q : lE (gX X) W (mN f t) σ H Q) : lA (gX X) W t σ H fun vs H1 => r vs H1 Q := by
  obtain ⟨p, S, E, hs, he, q⟩ := q
  exact ⟨p, S, E, hs, he, post_mono (fun ds S1 p1 H1 x1 hs1 q1 vs rvs => hp p1 S1 H1 ds vs Q hs1 rvs q1) (post_bind q)⟩
theorem me_callB {x : Str} {id : String} {r : List V → Hp → VK → Prop} {f : List D → Sto → Rs D} {t : En → Sto → Rs (List D)} {e : Expr} {es : List Expr} {p : Pos} (hc : CallR X (.builtin id) r) (hp : PrimN (gX X) W r f) (hg : Gl X x) (hm : X.mg x = none) (hv : bootBuiltins x = some (.builtin id)) (ha : MA X W (e :: es) t) (hn : x ≠ "__name__" := by decide) (hdb : (x == ("__debug__" : Str)) = false := by decide)
    (he : starEach (e :: es) X.env = (false, eval e X.env) :: starEach es X.env := by rfl) (hpl : (backTo pos (starEach es X.env)).any (·.1) = false := by rfl) : ME X W (.Call (.Name x p) (e :: es) [] pos) (mN f t) :=
  PE.imp (pe_callB hc hg hm hv ha hn hdb he hpl) fun _ _ _ q => mN_read hp q
theorem me_callTy {x : Str} {T : String} {r : List V → Hp → VK → Prop} {f : List D → Sto → Rs D} {t : En → Sto → Rs (List D)} {e : Expr} {es : List Expr} {p : Pos} (hc : CallR X (.type T) r) (hp : PrimN (gX X) W r f) (hg : Gl X x) (hm : X.mg x = none) (hv : bootBuiltins x = some (.type T)) (ha : MA X W (e :: es) t) (hn : x ≠ "__name__" := by decide) (hdb : (x == ("__debug__" : Str)) = false := by decide)
    (he : starEach (e :: es) X.env = (false, eval e X.env) :: starEach es X.env := by rfl) (hpl : (backTo pos (starEach es X.env)).any (·.1) = false := by rfl) : ME X W (.Call (.Name x p) (e :: es) [] pos) (mN f t) :=
  PE.imp (pe_callTy hc hg hm hv ha hn hdb he hpl) fun _ _ _ q => mN_read hp q
end
end M

namespace M
open PySem L2
section
variable {X : Cx} {W : XW}

/-! ### targets -/
def gN (i : Nat) : D → En → Sto → Rs En := fun d E S => .ok (E.set i (some d)) S
def gT (n : Nat) (g : List D → En → Sto → Rs En) : D → En → Sto → Rs En := fun d E S => match d with
  | .tup ds => if ds.length = n then g ds E S else .bad
  | _ => .bad
def gNil : List D → En → Sto → Rs En := fun ds E S => match ds with
  | [] => .ok E S
  | _ :: _ => .bad
def gCons (g : D → En → Sto → Rs En) (r : List D → En → Sto → Rs En) : List D → En → Sto → Rs En := fun ds E S => match ds with
  | [] => .bad
  | d :: ds => (g d E S).bind fun E1 S1 => r ds E1 S1
theorem mg_name {i : Nat} {x : Str} {pos : Pos} (hN : X.N.Nodup) (hi : X.N[i]? = some x) (hx : Loc X.env.scope x) (hf : X.fn x = true ∨ X.env.scope.names.lookup x = some .local := by first | exact .inl rfl | exact .inr rfl | assumption) : MG X W (.Name x pos) (gN i) :=
  PG.imp (pg_name hN hi hx hf) fun v σ H Q q => by
    obtain ⟨p, S, E, d, hs, he, r, q⟩ := q
    exact post_ok q hs _ (he.set r)
theorem mgs_nil : MGs X W [] gNil := PGs.imp pgs_nil fun vs σ H Q q => by
  obtain ⟨p, S, E, ds, hs, he, r, q⟩ := q
  cases ds with
  | nil => exact ⟨r, post_ok q hs _ he⟩
  | cons d ds => exact q.elim
theorem mgs_cons {e : Expr} {es : List Expr} {g : D → En → Sto → Rs En} {r : List D → En → Sto → Rs En} (h1 : MG X W e g) (h2 : MGs X W es r)
    (hs : (assignEach (e :: es) X.env).map (·.2) = assign e X.env :: (assignEach es X.env).map (·.2) := by rfl) : MGs X W (e :: es) (gCons g r) :=
  PGs.imp (pgs_cons h1 h2 hs) fun vs σ H Q q => by
    obtain ⟨p, S, E, ds, hs, he, rr, q⟩ := q
    cases ds with
    | nil => exact q.elim
    | cons d ds =>
      obtain ⟨v, us, rfl, rv, rvs⟩ := rr
      refine ⟨v, us, rfl, p, S, E, d, hs, he, rv, post_mono (fun E1 S1 p1 H1 x1 hs1 q1 σ1 he1 => ?_) (post_bind q)⟩
      exact ⟨p1, S1, E1, ds, hs1, he1, rvs.mono x1.pre x1.tup, q1⟩
theorem mg_tup {es : List Expr} {k : Nat} {g : List D → En → Sto → Rs En} {n : Nat} {pos : Pos} (hc : X.calm = true) (h : MGs X W es g)
    (hn : (assignEach es X.env).length = n := by rfl) (hst : (assignEach es X.env).findIdx? (·.1) = none := by rfl) : MG X W (.Tuple es k pos) (gT n g) :=
  PG.imp (pg_tup hc h hn hst) fun v σ H Q q => by
    obtain ⟨p, S, E, d, hs, he, r, q⟩ := q
    unfold gT at q
    split at q
    · rename_i ds
      obtain ⟨a, vs, rfl, e, rs⟩ := r
      split at q
      · rename_i hl
        exact ⟨a, vs, rfl, e, by rw [← rs.length]; exact hl, p, S, E, ds, hs, he, rs, q⟩
      · exact q.elim
    · exact q.elim
/-- o[i] = v -/
def gS (f : D → D → D → Sto → Rs Unit) (mo mi : En → Sto → Rs D) : D → En → Sto → Rs En := fun d E S => (mo E S).bind fun o S1 => (mi E S1).bind fun i S2 => (f o i d S2).bind fun _ S3 => .ok E S3
def PrimS (K : KX) (W : XW) (t : TSet) (f : D → D → D → Sto → Rs Unit) : Prop := ∀ (p : List Addr) (S : Sto) (H : Hp) (o i d : D) (ov iv v : V) (Q : Hp → Prop), RS K p S H → RD K p H o ov → RD K p H i iv → RD K p H d v →
  post K W p H (f o i d S) (fun _ _ _ H' => Q H') → t ov iv v H Q
theorem mg_sub {o i : Expr} {mo mi : En → Sto → Rs D} {t : TSet} {f : D → D → D → Sto → Rs Unit} {pos : Pos} (hp : PrimS (gX X) W t f) (ho : ME X W o mo) (hi : ME X W i mi) (hs : PSet X t)
    (ha : ∀ v, assign (.Subscript o i pos) X.env v = (do
      let ov ← holding [v] (eval o X.env)
      let iv ← holding [v, ov] (eval i X.env)
      standAt pos
      holding [v, ov, iv] (setItem ov iv v)
      release [v, ov, iv] []) := by intro _; rfl) : MG X W (.Subscript o i pos) (gS f mo mi) :=
  PG.imp (pg_sub ho hi hs ha) fun v σ H Q q => by
    obtain ⟨p, S, E, d, hs, he, r, q⟩ := q
    refine lE_step hs he (post_mono (fun x S1 p1 H1 x1 hs1 q1 ov rov => ?_) (post_bind q))
    refine lE_step hs1 (he.mono x1.pre x1.tup) (post_mono (fun y S2 p2 H2 x2 hs2 q2 iv riv => ?_) (post_bind q1))
    refine hp p2 S2 H2 x y d ov iv v _ hs2 (rov.mono x2.pre x2.tup) riv ((r.mono x1.pre x1.tup).mono x2.pre x2.tup) (post_mono (fun _ S3 p3 H3 x3 hs3 q3 => ?_) (post_bind q2))
    exact post_ok q3 hs3 σ (((he.mono x1.pre x1.tup).mono x2.pre x2.tup).mono x3.pre x3.tup)

/-! ### statements -/
def sNil : En → Sto → Rs Fl := fun E S => .ok (.nx E) S
def thenF (b : En → Sto → Rs Fl) : Fl → Sto → Rs Fl := fun fl S => match fl with
  | .nx E => b E S
  | .rt d => .ok (.rt d) S
  | .bk E => .ok (.bk E) S
  | .ct E => .ok (.ct E) S
def sSeq (a b : En → Sto → Rs Fl) : En → Sto → Rs Fl := fun E S => (a E S).bind (thenF b)
theorem mss_nil : MSs X W [] sNil := PSs.imp pss_nil fun Z σ H q => by
  obtain ⟨p, S, E, hs, he, q⟩ := q
  exact post_ok q hs σ he
theorem mss_cons {st : Stmt} {rest : List Stmt} {a b : En → Sto → Rs Fl} (h1 : MS X W st a) (h2 : MSs X W rest b) : MSs X W (st :: rest) (sSeq a b) :=
  PSs.imp (pss_cons h1 h2) fun Z σ H q => by
    obtain ⟨p, S, E, hs, he, q⟩ := q
    refine ⟨p, S, E, hs, he, post_mono (fun fl S1 p1 H1 x1 hs1 q1 => ?_) (post_bind q)⟩
    cases fl with
    | nx E1 => exact fun σ1 he1 => ⟨p1, S1, E1, hs1, he1, q1⟩
    | rt d => exact post_ok (W := W) (a := Fl.rt d) q1 hs1
    | bk E1 => exact post_ok (W := W) (a := Fl.bk E1) q1 hs1
    | ct E1 => exact post_ok (W := W) (a := Fl.ct E1) q1 hs1
theorem mss_one {st : Stmt} {a : En → Sto → Rs Fl} (h1 : MS X W st a) : MSs X W [st] a := pss_one h1
/-- slots forgotten behind a statement -/
def wipeE (l : List Nat) (E : En) : En := l.foldl (fun E i => E.set i none) E
theorem wipeE_len : ∀ (l : List Nat) (E : En), (wipeE l E).length = E.length
  | [], _ => rfl
  | i :: l, E => by
    show (wipeE l (E.set i none)).length = _
    rw [wipeE_len l, List.length_set]
theorem wipeE_get : ∀ (l : List Nat) (E : En) (j : Nat) (d : D), (wipeE l E)[j]? = some (some d) → E[j]? = some (some d)
  | [], _, _, _, h => h
  | i :: l, E, j, d, h => by
    have h := wipeE_get l (E.set i none) j d h
    by_cases hj : i = j
    · subst hj
      rw [List.getElem?_set_self'] at h
      cases hq : E[i]? with
      | none => rw [hq] at h; cases h
      | some x => rw [hq] at h; cases h
    · rw [List.getElem?_set_ne hj] at h
      exact h
def wipeF (l : List Nat) : Fl → Fl
  | .nx E => .nx (wipeE l E)
  | .rt d => .rt d
  | .bk E => .bk (wipeE l E)
  | .ct E => .ct (wipeE l E)
def sWipe (l : List Nat) (m : En → Sto → Rs Fl) : En → Sto → Rs Fl := fun E S => (m E S).bind fun fl S1 => .ok (wipeF l fl) S1
theorem wipe_read {l : List Nat} {m : En → Sto → Rs Fl} {Z : Ends} {σ : St} {H : Hp} (q : lS (gX X) W (sWipe l m) Z σ H) : lS (gX X) W m Z σ H := by
  obtain ⟨p, S, E, hs, he, q⟩ := q
  refine ⟨p, S, E, hs, he, post_mono (fun fl S1 p1 H1 x1 hs1 q1 => ?_) (post_bind q)⟩
  have q2 := post_ok q1 hs1
  cases fl with
  | nx E1 => exact fun σ1 he1 => q2 σ1 (he1.weak (wipeE_len _ _) (wipeE_get _ _))
  | rt d => exact q2
  | bk E1 => exact fun σ1 he1 => q2 σ1 (he1.weak (wipeE_len _ _) (wipeE_get _ _))
  | ct E1 => exact fun σ1 he1 => q2 σ1 (he1.weak (wipeE_len _ _) (wipeE_get _ _))
theorem ms_wipe (l : List Nat) {st : Stmt} {a : En → Sto → Rs Fl} (h : MS X W st a) : MS X W st (sWipe l a) := PS.imp h fun _ _ _ q => wipe_read q
theorem mss_wipe (l : List Nat) {st : List Stmt} {a : En → Sto → Rs Fl} (h : MSs X W st a) : MSs X W st (sWipe l a) := PSs.imp h fun _ _ _ q => wipe_read q
def sAsg (m : En → Sto → Rs D) (g : D → En → Sto → Rs En) : En → Sto → Rs Fl := fun E S => (m E S).bind fun d S1 => (g d E S1).bind fun E1 S2 => .ok (.nx E1) S2
theorem asg_read {m : En → Sto → Rs D} {g : D → En → Sto → Rs En} {Z : Ends} {σ : St} {H : Hp} (q : lS (gX X) W (sAsg m g) Z σ H) : tAsg (lE (gX X) W m) (lG (gX X) W g) Z σ H := by
  obtain ⟨p, S, E, hs, he, q⟩ := q
  refine lE_step hs he (post_mono (fun d S1 p1 H1 x1 hs1 q1 v rv => ?_) (post_bind q))
  refine ⟨p1, S1, E, d, hs1, he.mono x1.pre x1.tup, rv, post_mono (fun E1 S2 p2 H2 x2 hs2 q2 σ' he' => ?_) (post_bind q1)⟩
  exact post_ok q2 hs2 σ' he'
theorem ms_asg {tg e : Expr} {m : En → Sto → Rs D} {g : D → En → Sto → Rs En} {pos : Pos} (he : ME X W e m) (hg : MG X W tg g) (hs : swapsWithSole [tg] e pos.line X.env = pure false := by rfl) (hw : swappedStores [tg] e X.env = pure none := by rfl)
    (h1 : (assignEach [tg] X.env).map (·.2) = [assign tg X.env] := by rfl) : MS X W (.Assign [tg] e pos) (sAsg m g) := PS.imp (ps_asg he hg hs hw h1) fun _ _ _ q => asg_read q
theorem asgN_read {t : TE} {m : En → Sto → Rs D} {i : Nat} {Z : Ends} {σ : St} {H : Hp} (ht : ∀ σ H Q, lE (gX X) W m σ H Q → t σ H Q) (q : lS (gX X) W (sAsg m (gN i)) Z σ H) : tAsg t (gName i) Z σ H := by
  obtain ⟨p, S, E, hs, he, q⟩ := q
  refine ht _ _ _ (lE_step hs he (post_mono (fun d S1 p1 H1 x1 hs1 q1 v rv => ?_) (post_bind q)))
  exact post_ok q1 hs1 _ ((he.mono x1.pre x1.tup).set rv)
theorem ms_set {i : Nat} {x : Str} {e : Expr} {m : En → Sto → Rs D} {pos pos' : Pos} (hN : X.N.Nodup) (hi : X.N[i]? = some x) (hx : Loc X.env.scope x) (he : ME X W e m) (hs : swapsWith e (some (.Name x pos')) pos.line X.env = pure false := by rfl) (hf : X.fn x = true ∨ X.env.scope.names.lookup x = some .local := by first | exact .inl rfl | exact .inr rfl | assumption) :
    MS X W (.Assign [.Name x pos'] e pos) (sAsg m (gN i)) := PS.imp (ps_set hN hi hx he hs hf) fun _ _ _ q => asgN_read (fun _ _ _ q => q) q
/-- o[i] = e -/
theorem asg2_read {m1' m2' : D → En → Sto → Rs En} {m : En → Sto → Rs D} {Z : Ends} {σ : St} {H : Hp} (q : lS (gX X) W (sAsg m (fun d E S => (m1' d E S).bind fun E1 S1 => m2' d E1 S1)) Z σ H) : tAsg2 (lE (gX X) W m) (lG (gX X) W m1') (lG (gX X) W m2') Z σ H := by
  obtain ⟨p, S, E, hs, he, q⟩ := q
  refine lE_step hs he (post_mono (fun d S1 p1 H1 x1 hs1 q1 v rv => ?_) (post_bind q))
  have q1' := post_bind q1
  change post _ _ _ _ ((m1' d E S1).bind fun E1 S1 => m2' d E1 S1) _ at q1'
  refine ⟨p1, S1, E, d, hs1, he.mono x1.pre x1.tup, rv, post_mono (fun E1 S2 p2 H2 x2 hs2 q2 σ' he' => ?_) (post_bind q1')⟩
  refine ⟨p2, S2, E1, d, hs2, he', rv.mono x2.pre x2.tup, post_mono (fun E3 S3 p3 H3 x3 hs3 q3 σ3 he3 => ?_) q2⟩
  exact post_ok q3 hs3 σ3 he3
theorem ms_asg2 {t1 t2 e : Expr} {m : En → Sto → Rs D} {g1 g2 : D → En → Sto → Rs En} {pos : Pos} (he : ME X W e m) (h1 : MG X W t1 g1) (h2 : MG X W t2 g2) (ha : (assignEach [t1, t2] X.env).map (·.2) = [assign t1 X.env, assign t2 X.env] := by rfl) (hw : swappedStores [t1, t2] e X.env = pure none := by rfl) :
    MS X W (.Assign [t1, t2] e pos) (sAsg m (fun d E S => (g1 d E S).bind fun E1 S1 => g2 d E1 S1)) := PS.imp (ps_asg2 he h1 h2 ha hw) fun _ _ _ q => asg2_read q
def sExpr (m : En → Sto → Rs D) : En → Sto → Rs Fl := fun E S => (m E S).bind fun _ S1 => .ok (.nx E) S1
theorem ms_expr {e : Expr} {m : En → Sto → Rs D} {pos : Pos} (he : ME X W e m) (hs : swapsWith e none pos.line X.env = pure false := by rfl) : MS X W (.Expr e pos) (sExpr m) :=
  PS.imp (ps_expr he hs) fun Z σ H q => by
    obtain ⟨p, S, E, hs, he, q⟩ := q
    refine lE_step hs he (post_mono (fun d S1 p1 H1 x1 hs1 q1 v rv => ?_) (post_bind (f := fun _ S1 => Rs.ok (Fl.nx E) S1) q))
    exact post_ok q1 hs1 σ (he.mono x1.pre x1.tup)
def sRet (m : En → Sto → Rs D) : En → Sto → Rs Fl := fun E S => (m E S).bind fun d S1 => .ok (.rt d) S1
theorem ms_ret {e : Expr} {m : En → Sto → Rs D} {pos : Pos} (he : ME X W e m) : MS X W (.Return (some e) pos) (sRet m) :=
  PS.imp (ps_ret he) fun Z σ H q => by
    obtain ⟨p, S, E, hs, he, q⟩ := q
    refine lE_step hs he (post_mono (fun d S1 p1 H1 x1 hs1 q1 v rv => ?_) (post_bind (f := fun d S1 => Rs.ok (Fl.rt d) S1) q))
    exact post_ok q1 hs1 v rv
def sIf (t : En → Sto → Rs Bool) (a b : En → Sto → Rs Fl) : En → Sto → Rs Fl := fun E S => (t E S).bind fun c S1 => if c = true then a E S1 else b E S1
theorem ms_if {c : Expr} {a b : List Stmt} {t : En → Sto → Rs Bool} {na nb : En → Sto → Rs Fl} {pos : Pos} (hc : MT X W c t) (ha : MSs X W a na) (hb : MSs X W b nb) : MS X W (.If c a b pos) (sIf t na nb) :=
  PS.imp (ps_if hc ha hb) fun Z σ H q => by
    obtain ⟨p, S, E, hs, he, q⟩ := q
    refine ⟨p, S, E, hs, he, post_mono (fun d S1 p1 H1 x1 hs1 q1 => ?_) (post_bind q)⟩
    cases d with
    | true => exact ⟨p1, S1, E, hs1, he.mono x1.pre x1.tup, q1⟩
    | false => exact ⟨p1, S1, E, hs1, he.mono x1.pre x1.tup, q1⟩
def sAug (i : Nat) (m : En → Sto → Rs D) (f : D → D → Sto → Rs D) : En → Sto → Rs Fl := fun E S => (mV i E S).bind fun x _ => (m E S).bind fun y S1 => (f x y S1).bind fun z S2 => .ok (.nx (E.set i (some z))) S2
theorem ms_aug {i : Nat} {x : Str} {e : Expr} {m : En → Sto → Rs D} {op : Operator} {r : R2} {f : D → D → Sto → Rs D} {pos pos' : Pos} (hp : Prim2 (gX X) W r f) (hN : X.N.Nodup) (hi : X.N[i]? = some x) (hx : Loc X.env.scope x) (he : ME X W e m) (ho : OpR X (inplaceOp op) r) (hf : X.fn x = true ∨ X.env.scope.names.lookup x = some .local := by first | exact .inl rfl | exact .inr rfl | assumption) :
    MS X W (.AugAssign (.Name x pos') op e pos) (sAug i m f) :=
  PS.imp (ps_aug (ti := r) hN hi hx he ho hf) fun Z σ H q => by
    obtain ⟨p, S, E, hs, he, q⟩ := q
    unfold sAug mV at q
    split at q
    · rename_i d hd
      obtain ⟨v, e, rv⟩ := he.get i d hd
      refine ⟨v, e, lE_step hs he (post_mono (fun y S1 p1 H1 x1 hs1 q1 u ru => ?_) (post_bind q))⟩
      refine hp p1 S1 H1 d y v u _ hs1 (rv.mono x1.pre x1.tup) ru (post_mono (fun z S2 p2 H2 x2 hs2 q2 w rw' => ?_) (post_bind q1))
      exact post_ok q2 hs2 _ (((he.mono x1.pre x1.tup).mono x2.pre x2.tup).set rw')
    · exact q.elim
def sBrk : En → Sto → Rs Fl := fun E S => .ok (.bk E) S
def sCnt : En → Sto → Rs Fl := fun E S => .ok (.ct E) S
theorem ms_pass {pos : Pos} : MS X W (.Pass pos) sNil := PS.imp ps_pass fun Z σ H q => by
  obtain ⟨p, S, E, hs, he, q⟩ := q
  exact post_ok q hs σ he
theorem ms_break {pos : Pos} : MS X W (.Break pos) sBrk := PS.imp ps_break fun Z σ H q => by
  obtain ⟨p, S, E, hs, he, q⟩ := q
  exact post_ok q hs σ he
theorem ms_continue {pos : Pos} : MS X W (.Continue pos) sCnt := PS.imp ps_continue fun Z σ H q => by
  obtain ⟨p, S, E, hs, he, q⟩ := q
  exact post_ok q hs σ he
/-- what is not read -/
def sBad : En → Sto → Rs Fl := fun _ _ => .bad
theorem ms_bad {st : Stmt} : MS X W st sBad := PS.imp ps_never fun Z σ H q => by
  obtain ⟨p, S, E, hs, he, q⟩ := q
  exact q
end
end M

namespace M
open PySem L2
/-! ### dicts by tuples, walked -/
def Itn (P : Program) (w : World) (d : Addr) (o : Obj) (xs : List (NestedKey × Addr × V)) : It where
  go := fun i H => H d = some (.frz o (DictN P w d xs)) ∧ i < xs.length
  yld := fun i H x H' => H' = H ∧ ∃ y, xs[i]? = some y ∧ x = .ref y.2.1
  stop := fun i H => H d = some (.frz o (DictN P w d xs)) ∧ xs.length ≤ i
section
variable {X : Cx} {pins : List (Addr × Obj)} {σ : St} {H : Hp} {s : Shared} {d : Addr} {o : Obj}
theorem pair_at {α β : Type} {G : α → β → Prop} : ∀ {l : List α} {m : List β}, Paired G l m → ∀ {i : Nat} {a : α}, l[i]? = some a → ∃ b, m[i]? = some b ∧ G a b := by
  intro l m h
  induction h with
  | nil => intro i a e; simp at e
  | cons r t ih =>
    intro i a e
    cases i with
    | zero => simp at e; subst e; exact ⟨_, rfl, r⟩
    | succ j => simp at e ⊢; exact ih e
theorem pair_len {α β : Type} {G : α → β → Prop} {l : List α} {m : List β} (h : Paired G l m) : l.length = m.length := by
  induction h with
  | nil => rfl
  | cons r t ih => simp [ih]
/-- what stands at a dict by tuples -/
structure RawN (P : Program) (w : World) (d : Addr) (xs : List (NestedKey × Addr × V)) (h : Heap) (o : Obj) (es : Array DictEntry) (ep : Nat) : Prop where
  sm : (d == sysModules) = false
  at' : h.get? d = some o
  ex : o.ExactDict
  dt : o.data = .dict es ep
  sz : es.size = xs.length
  le : xs.length ≤ sizeLine
  en : ∀ (i : Nat) y, xs[i]? = some y → ∃ en, es[i]? = some en ∧ en.key = .ref y.2.1 ∧ RelV y.2.2 en.val
theorem dictN_raw {P : Program} {w : World} {xs : List (NestedKey × Addr × V)} {h : Heap} (x : ObjOk P w H h d (DictN P w d xs)) : ∃ o es ep, RawN P w d xs h o es ep := by
  obtain ⟨⟨l, sm, dp, nd, ys, o, es, ep, pr, g, ex, dt, el⟩, _⟩ := x
  refine ⟨o, es, ep, sm, g, ex, dt, ?_, l, fun i y e => ?_⟩
  · rw [pair_len pr, ← Array.length_toList, el, List.length_map]
  · obtain ⟨b, hb, e1, e2, e3⟩ := pair_at pr e
    refine ⟨entryOfKey (nestedKind P w) b, ?_, ?_, e3⟩
    · rw [← Array.getElem?_toList, el, List.getElem?_map, hb]; rfl
    · show Value.ref b.2.1 = _
      rw [e2]
theorem frzN {xs : List (NestedKey × Addr × V)} (I : Inv X pins σ H s) (h : H d = some (.frz o (DictN X.prog X.w d xs))) : ∃ es ep, RawN X.prog X.w d xs s.heap o es ep := by
  obtain ⟨hd, x⟩ := I.hok d _ h
  obtain ⟨o', es, ep, r⟩ := dictN_raw x
  have e := r.at'
  rw [hd] at e
  cases e
  exact ⟨es, ep, r⟩
end
theorem turnN {P : Program} {w : World} {K : PySem.W.Frag} {tg : Expr} {d : Addr} {o : Obj} {es : Array DictEntry} {ep : Nat} {xs : List (NestedKey × Addr × V)} (it : Addr) (hod : o.data = .dict es ep) :
    Turn P w K tg (Itn P w d o xs) [it] it (fun i h => h.IsKeyIter it d i xs.length ep) where
  mem := List.mem_singleton.mpr rfl
  obj := fun i h st b hb => by
    cases List.mem_singleton.mp hb
    obtain ⟨oi, e, c, dd⟩ := st
    exact ⟨oi, e, fun v z => by rw [dd] at z; cases z⟩
  keep := fun i h h' st k => st.at fun oi e => k it (List.mem_singleton.mpr rfl) oi e
  item := fun {X} hP hw hK hc i pins s σ H E I hf st hg => by
    cases hP; cases hw; cases hK
    obtain ⟨f0, f1, f2, f3, f4, f5⟩ := hf it (List.mem_singleton.mpr rfl)
    obtain ⟨es', ep', r⟩ := frzN I hg.1
    have ee := r.dt
    rw [hod] at ee
    cases ee
    have hi : i < xs.length := hg.2
    have hkv : xs[i]? = some xs[i] := List.getElem?_eq_getElem hg.2
    obtain ⟨en, hen, hkey, _⟩ := r.en i _ hkv
    refine next_key_item st r.at' r.dt r.sz hen fun h' st' sb => ?_
    have I1 : Inv X pins σ H { s with heap := h' } := I.turned (t' := s.toks) (fun b ob hb e => (sb.2 b hb).trans e) f0 f1 f3 f4 f5
    obtain ⟨oi, e, c, dd⟩ := id st'
    refine ⟨en.key, rfl, go_of (s := { s with heap := h' }) e c dd (by decide) ⟨.ref (xs[i]).2.1, H, I1, hkey, ⟨rfl, _, hkv, rfl⟩, st', fun b hb => (hf b hb).1⟩⟩
  done := fun {X} hP hw hK hc i pins s σ H E I hf st hg => by
    cases hP; cases hw; cases hK
    obtain ⟨f0, f1, f2, f3, f4, f5⟩ := hf it (List.mem_singleton.mpr rfl)
    obtain ⟨es', ep', r⟩ := frzN I hg.1
    have ee := r.dt
    rw [hod] at ee
    cases ee
    exact next_key_end (I.ok.hd hc) st r.at' r.dt r.sz hg.2 fun h' eb => ⟨rfl, I.turned (t' := s.toks) (fun b ob hb e => eb b ob hb e) f0 f1 f3 f4 f5⟩
  self := fun A i s Q E st h => wpAny_pyIter_keyiter st h
theorem walkN {P : Program} {w : World} {d : Addr} {o : Obj} {xs : List (NestedKey × Addr × V)} : Walk (Itn P w d o xs) xs.length (fun H => H d = some (.frz o (DictN P w d xs))) (fun i H x H' => H' = H ∧ ∃ y, xs[i]? = some y ∧ x = .ref y.2.1) :=
  ⟨fun _ _ hi q => ⟨q, hi⟩, fun _ q => ⟨q, Nat.le_refl _⟩, fun _ _ _ _ _ _ y => y⟩
end M

namespace M
open PySem L2

/-! ### what is walked -/
/-- the items; what must stand while they are walked; the place of a dict that is locked for it -/
structure AI where
  items : List D
  g : Sto → Prop
  lk : Option Nat
structure WD (X : Cx) (p : List Addr) (H : Hp) (J : It) (ai : AI) : Prop where
  go : ∀ i q S H', Ext (gX X) p H q H' → RS (gX X) q S H' → ai.g S → i < ai.items.length → J.go i H'
  stop : ∀ q S H', Ext (gX X) p H q H' → RS (gX X) q S H' → ai.g S → J.stop ai.items.length H'
  yld : ∀ (i : Nat) q S H' x H2 d, Ext (gX X) p H q H' → RS (gX X) q S H' → ai.g S → ai.items[i]? = some d → J.yld i H' x H2 → Ext (gX X) q H' q H2 ∧ RS (gX X) q S H2 ∧ RD (gX X) q H2 d x
/-- the lock ahead of the walk -/
inductive Lk (X : Cx) (p : List Addr) (H : Hp) (S : Sto) : Option Nat → Hp → Sto → Prop where
  | none : Lk X p H S none H S
  | some {n : Nat} {a : Addr} {od : Obj} {ws : List (Key × V)} {kvs : List (Key × D)} : p[n]? = some a → H a = some (.dK ws) → (∀ o' u', X.H_0 a ≠ some (.frz o' u')) → S[n]? = some (.dk kvs) → RKs (gX X) p H kvs ws → Lk X p H S (some n) (upd H a (.frz od (.dK ws))) (S.set n (.fd kvs))
  | tup {n : Nat} {a : Addr} {od : Obj} {ws : List (NestedKey × Addr × V)} {kvs : List (NestedKey × D)} : p[n]? = some a → H a = some (DictN X.prog X.w a ws) → (∀ o' u', X.H_0 a ≠ some (.frz o' u')) → S[n]? = some (.dn kvs) → RNs (gX X) p H kvs ws → Lk X p H S (some n) (upd H a (.frz od (DictN X.prog X.w a ws))) (S.set n (.fn kvs))
def lockS (lk : Option Nat) (S : Sto) : Sto := match lk with
  | none => S
  | some n => match S[n]? with
    | some (.dk kvs) => S.set n (.fd kvs)
    | some (.dn kvs) => S.set n (.fn kvs)
    | _ => S
def unl {α : Type} (lk : Option Nat) (a : α) (S : Sto) : Rs α := match lk with
  | none => .ok a S
  | some n => match S[n]? with
    | some (.fd kvs) => .ok a (S.set n (.dk kvs))
    | some (.fn kvs) => .ok a (S.set n (.dn kvs))
    | _ => .bad
def lI (X : Cx) (W : XW) (m : En → Sto → Rs AI) : TI := fun σ H R => ∃ p S E, RS (gX X) p S H ∧ RE (gX X) p H E σ ∧ post (gX X) W p H (m E S) fun ai S' p' H' => ∀ J H2, Lk X p' H' S' ai.lk H2 (lockS ai.lk S') → WD X p' H2 J ai → R J H2
abbrev MI (X : Cx) (W : XW) (tg iter : Expr) (m : En → Sto → Rs AI) : Prop := PI X tg iter (lI X W m)

section
variable {X : Cx} {W : XW}
/-- a walk of HandS, read over data: the items stand as the walk tells -/
theorem wd_walk {p : List Addr} {H : Hp} {J : It} {ai : AI} {n : Nat} {G : Hp → Prop} {Y : Nat → Hp → V → Hp → Prop} (w : Walk J n G Y) (hn : ai.items.length = n)
    (hg : ∀ q S H', Ext (gX X) p H q H' → RS (gX X) q S H' → ai.g S → G H')
    (hy : ∀ (i : Nat) q S H' x H2 d, Ext (gX X) p H q H' → RS (gX X) q S H' → ai.g S → ai.items[i]? = some d → Y i H' x H2 → Ext (gX X) q H' q H2 ∧ RS (gX X) q S H2 ∧ RD (gX X) q H2 d x) : WD X p H J ai where
  go := fun i q S H' e r g hi => w.goes i H' (by omega) (hg q S H' e r g)
  stop := fun q S H' e r g => by rw [hn]; exact w.stops H' (hg q S H' e r g)
  yld := fun i q S H' x H2 d e r g hd y => hy i q S H' x H2 d e r g hd (w.yields i H' x H2 (by rw [← hn]; exact (List.getElem?_eq_some_iff.mp hd).1) (hg q S H' e r g) y)
theorem same_y {q : List Addr} {S : Sto} {H' H2 : Hp} {x : V} {d : D} (e : H2 = H') (r : RS (gX X) q S H') (rd : RD (gX X) q H' d x) : Ext (gX X) q H' q H2 ∧ RS (gX X) q S H2 ∧ RD (gX X) q H2 d x := by
  subst e
  exact ⟨Ext.refl _ _, r, rd⟩

/-! ### any one thing walked: a tuple, a list, a text, a dict -/
def iAny (X : Cx) (te : TE) : TI := fun σ H R => te σ H fun x H1 =>
  (∃ a, x = .ref a ∧ (∃ xs, SqL X.K H1 a xs) ∧ R (Itl X.K a) H1) ∨ (∃ a, x = .ref a ∧ (∃ xs, SqT X.K H1 a xs) ∧ R (Itt X.K a) H1) ∨ (∃ z, x = .str z ∧ R (Its z) H1) ∨
  (∃ d kvs, x = .ref d ∧ H1 d = some (.dK kvs) ∧ ∀ od, (∀ o u, X.H_0 d ≠ some (.frz o u)) → R (Itk d od kvs) (upd H1 d (.frz od (.dK kvs)))) ∨ (∃ d o kvs, x = .ref d ∧ H1 d = some (.frz o (.dK kvs)) ∧ R (Itk d o kvs) H1) ∨
  (∃ d ws, x = .ref d ∧ H1 d = some (DictN X.prog X.w d ws) ∧ ∀ od, (∀ o u, X.H_0 d ≠ some (.frz o u)) → R (Itn X.prog X.w d od ws) (upd H1 d (.frz od (DictN X.prog X.w d ws)))) ∨ (∃ d o ws, x = .ref d ∧ H1 d = some (.frz o (DictN X.prog X.w d ws)) ∧ R (Itn X.prog X.w d o ws) H1)
theorem pi_any {tg e : Expr} {te : TE} (he : PE X e te) : PI X tg e (iAny X te) := by
  refine ⟨fun pins s σ H R I h => ?_⟩
  refine thn (he.run pins s σ H _ I h) fun v s1 ⟨x, H1, I1, r1, q1⟩ => ?_
  have fp : ∀ b, b ∈ [s1.heap.objs.size] → FpOk X pins H1 b := fun b hb => by
    have e : b = s1.heap.objs.size := by simpa using hb
    subst e
    exact I1.fpOk (Nat.le_refl _) (I1.hok.fresh (Nat.le_refl _))
  rcases q1 with ⟨a, rfl, ⟨xs, hq⟩, q⟩ | ⟨a, rfl, ⟨xs, hq⟩, q⟩ | ⟨z, rfl, q⟩ | ⟨d, kvs, rfl, hd, q⟩ | ⟨d, o, kvs, rfl, hd, q⟩ | ⟨d, ws, rfl, hd, q⟩ | ⟨d, o, ws, rfl, hd, q⟩
  · cases r1
    obtain ⟨its, rv, p, hz⟩ := I1.list hq
    refine wpAny_pyIter_list p.isList ?_
    exact ⟨s1.heap.objs.size, [s1.heap.objs.size], _, _, H1, rfl, I1.kept (t' := s1.toks) fun b o e => Heap.get?_push_of_some _ e, turn_list a _, ⟨_, Heap.get?_push_size _ rfl, rfl, rfl⟩, fp, q⟩
  · cases r1
    obtain ⟨its, rv, p, hz⟩ := I1.tuple hq
    refine wpAny_pyIter_tuple (show s1.heap.IsTuple a its.toArray from p) ?_
    exact ⟨s1.heap.objs.size, [s1.heap.objs.size], _, _, H1, rfl, I1.kept (t' := s1.toks) fun b o e => Heap.get?_push_of_some _ e, turn_tuple a _, ⟨_, Heap.get?_push_size _ rfl, rfl, rfl⟩, fp, q⟩
  · obtain ⟨t, rfl⟩ := r1
    cases ha : z.cps.all (· < 128)
    · exact wpAny_pyIter_wide ha (pi_one (tk := s1.toks) I1 _ (turn_str _ z t "str_iterator" (.inr rfl)) ⟨_, Heap.get?_push_size _ rfl, rfl, rfl⟩ q)
    · exact wpAny_pyIter_ascii ha (pi_one (tk := s1.toks) I1 _ (turn_str _ z t "str_ascii_iterator" (.inl rfl)) ⟨_, Heap.get?_push_size _ rfl, rfl, rfl⟩ q)
  · obtain rfl : v = Value.ref d := r1
    obtain ⟨od, I2⟩ := I1.lock hd True.intro
    have hd2 : upd H1 d (.frz od (.dK kvs)) d = some (.frz od (.dK kvs)) := upd_same
    obtain ⟨hs, hgd, hx, es, ep, vs, hdt, hsz, kv, hm⟩ := I2.frzK hd2
    refine iter_keys hs hgd hx hdt (pi_one (tk := s1.toks) I2 _ (turn_keys _ hdt) ⟨_, Heap.get?_push_size _ rfl, rfl, ?_⟩ (q od (I1.nofrz hd True.intro)))
    rw [hsz] <;> rfl
  · obtain rfl : v = Value.ref d := r1
    obtain ⟨hs, hgd, hx, es, ep, vs, hdt, hsz, kv, hm⟩ := I1.frzK hd
    refine iter_keys hs hgd hx hdt (pi_one (tk := s1.toks) I1 _ (turn_keys _ hdt) ⟨_, Heap.get?_push_size _ rfl, rfl, ?_⟩ q)
    rw [hsz] <;> rfl
  · obtain rfl : v = Value.ref d := r1
    obtain ⟨od, I2⟩ := I1.lock hd True.intro
    obtain ⟨es, ep, r⟩ := frzN I2 upd_same
    refine iter_keys r.sm r.at' r.ex r.dt (pi_one (tk := s1.toks) I2 _ (turnN _ r.dt) ⟨_, Heap.get?_push_size _ rfl, rfl, ?_⟩ (q od (I1.nofrz hd True.intro)))
    rw [r.sz] <;> rfl
  · obtain rfl : v = Value.ref d := r1
    obtain ⟨es, ep, r⟩ := frzN I1 hd
    refine iter_keys r.sm r.at' r.ex r.dt (pi_one (tk := s1.toks) I1 _ (turnN _ r.dt) ⟨_, Heap.get?_push_size _ rfl, rfl, ?_⟩ q)
    rw [r.sz] <;> rfl
def kD : Key → D
  | .inl i => .int i
  | .inr x => .str x
theorem RD_key {K : KX} {p : List Addr} {H : Hp} (k : Key) : RD K p H (kD k) (kV k) := by cases k <;> rfl
/-- what is walked of a datum -/
def aiOf (d : D) (S : Sto) : Rs AI := match d with
  | .tup ds => .ok ⟨ds, fun _ => True, none⟩ S
  | .ptp ds => .ok ⟨ds, fun _ => True, none⟩ S
  | .str x => .ok ⟨x.cps.toList.map fun c => .str ⟨#[c]⟩, fun _ => True, none⟩ S
  | .rl ns => .ok ⟨ns.map .int, fun _ => True, none⟩ S
  | .ref n => match S[n]? with
    | some (.lst ds) => .ok ⟨ds, fun S => S[n]? = some (.lst ds), none⟩ S
    | some (.dk kvs) => .ok ⟨kvs.map fun kv => kD kv.1, fun S => S[n]? = some (.fd kvs), some n⟩ S
    | some (.fd kvs) => .ok ⟨kvs.map fun kv => kD kv.1, fun S => S[n]? = some (.fd kvs), none⟩ S
    | some (.dn kvs) => .ok ⟨kvs.map fun kv => nkD kv.1, fun S => S[n]? = some (.fn kvs), some n⟩ S
    | some (.fn kvs) => .ok ⟨kvs.map fun kv => nkD kv.1, fun S => S[n]? = some (.fn kvs), none⟩ S
    | _ => .bad
  | _ => .bad
def iA (m : En → Sto → Rs D) : En → Sto → Rs AI := fun E S => (m E S).bind aiOf
theorem mem_of_get {p : List Addr} {n : Nat} {a : Addr} (h : p[n]? = some a) : a ∈ p := List.mem_of_getElem? h
theorem key_get {K : KX} {p : List Addr} {H : Hp} {kvs : List (Key × D)} {ws : List (Key × V)} (h : RKs K p H kvs ws) {i : Nat} {k : Key} {v : V} (e : ws[i]? = some (k, v)) : ∃ d, kvs[i]? = some (k, d) ∧ RD K p H d v := by
  have e1 : (ws.map (·.1))[i]? = some k := by rw [List.getElem?_map, e]; rfl
  have e2 : (ws.map (·.2))[i]? = some v := by rw [List.getElem?_map, e]; rfl
  rw [← h.1, List.getElem?_map] at e1
  obtain ⟨d, e3, r⟩ := h.2.get' e2
  rw [List.getElem?_map] at e3
  cases hq : kvs[i]? with
  | none => rw [hq] at e1; cases e1
  | some kv =>
    rw [hq] at e1 e3
    obtain ⟨k', d'⟩ := kv
    simp at e1 e3
    subst e1; subst e3
    exact ⟨d', rfl, r⟩
theorem RKs.length {K : KX} {p : List Addr} {H : Hp} {kvs : List (Key × D)} {ws : List (Key × V)} (h : RKs K p H kvs ws) : kvs.length = ws.length := by simpa using congrArg List.length h.1
/-- the dict at d locked: its keys -/
theorem wd_keys {p : List Addr} {H : Hp} {n : Nat} {d : Addr} {od : Obj} {kvs : List (Key × D)} {ws : List (Key × V)} {lk : Option Nat} (ea : p[n]? = some d) (hd : H d = some (.frz od (.dK ws))) (rk : RKs (gX X) p H kvs ws)
    (hob : ∀ q S H', Ext (gX X) p H q H' → RS (gX X) q S H' → S[n]? = some (.fd kvs) → H' d = some (.frz od (.dK ws))) :
    WD X p H (Itk d od ws) ⟨kvs.map fun kv => kD kv.1, fun S => S[n]? = some (.fd kvs), lk⟩ := by
  refine wd_walk walk_keys (by rw [List.length_map]; exact rk.length) (fun q S H' e r g => hob q S H' e r g) fun i q S H' x H2 dd e r g hi y => ?_
  obtain ⟨e2, k, v, hk, rfl⟩ := y
  refine same_y e2 r ?_
  obtain ⟨d', hk', _⟩ := key_get rk hk
  rw [List.getElem?_map, hk'] at hi
  simp at hi
  subst hi
  exact RD_key k
theorem wd_keysN {p : List Addr} {H : Hp} {n : Nat} {d : Addr} {od : Obj} {kvs : List (NestedKey × D)} {ws : List (NestedKey × Addr × V)} {lk : Option Nat} (rk : RNs (gX X) p H kvs ws)
    (hob : ∀ q S H', Ext (gX X) p H q H' → RS (gX X) q S H' → S[n]? = some (.fn kvs) → H' d = some (.frz od (DictN X.prog X.w d ws))) :
    WD X p H (Itn X.prog X.w d od ws) ⟨kvs.map fun kv => nkD kv.1, fun S => S[n]? = some (.fn kvs), lk⟩ := by
  have hl : kvs.length = ws.length := by simpa using congrArg List.length rk.1
  refine wd_walk walkN (by rw [List.length_map]; exact hl) (fun q S H' e r g => hob q S H' e r g) fun i q S H' x H2 dd e r g hi y => ?_
  obtain ⟨e2, y, hy, rfl⟩ := y
  refine same_y e2 r ?_
  obtain ⟨v, hv, rv⟩ := (rk.2.2.mono e.pre e.tup).get hi
  rw [List.getElem?_map, hy] at hv
  cases hv
  exact rv
theorem ai_read {p : List Addr} {S : Sto} {H : Hp} {d : D} {v : V} {R : It → Hp → Prop} (hs : RS (gX X) p S H) (r : RD (gX X) p H d v) (q : post (gX X) W p H (aiOf d S) fun ai S' p' H' => ∀ J H2, Lk X p' H' S' ai.lk H2 (lockS ai.lk S') → WD X p' H2 J ai → R J H2) :
    (∃ a, v = .ref a ∧ (∃ xs, SqL X.K H a xs) ∧ R (Itl X.K a) H) ∨ (∃ a, v = .ref a ∧ (∃ xs, SqT X.K H a xs) ∧ R (Itt X.K a) H) ∨ (∃ z, v = .str z ∧ R (Its z) H) ∨
    (∃ d kvs, v = .ref d ∧ H d = some (.dK kvs) ∧ ∀ od, (∀ o u, X.H_0 d ≠ some (.frz o u)) → R (Itk d od kvs) (upd H d (.frz od (.dK kvs)))) ∨ (∃ d o kvs, v = .ref d ∧ H d = some (.frz o (.dK kvs)) ∧ R (Itk d o kvs) H) ∨
    (∃ d ws, v = .ref d ∧ H d = some (DictN X.prog X.w d ws) ∧ ∀ od, (∀ o u, X.H_0 d ≠ some (.frz o u)) → R (Itn X.prog X.w d od ws) (upd H d (.frz od (DictN X.prog X.w d ws)))) ∨ (∃ d o ws, v = .ref d ∧ H d = some (.frz o (DictN X.prog X.w d ws)) ∧ R (Itn X.prog X.w d o ws) H) := by
  unfold aiOf at q
  cases d with
  | non => exact q.elim
  | bl b => exact q.elim
  | int i => exact q.elim
  | raw u => exact q.elim
  | rl ns =>
    obtain ⟨a, rfl, e⟩ := r
    refine .inl ⟨a, rfl, ⟨_, e.sq⟩, post_ok q hs _ _ .none (wd_walk walk_list (by simp) (fun q S H' e' r g => (e'.tup.rdl _ _ e).sq) fun i q S H' y H2 dd e r g hi yy => ?_)⟩
    obtain ⟨e2, hx⟩ := yy
    refine same_y e2 r ?_
    rw [List.getElem?_map] at hi hx
    cases hq : ns[i]? with
    | none => rw [hq] at hi; cases hi
    | some z => rw [hq] at hi hx; cases hi; cases hx; rfl
  | str x =>
    obtain rfl : v = V.str x := r
    refine .inr (.inr (.inl ⟨x, rfl, post_ok q hs _ _ .none (wd_walk walk_str (by simp) (fun _ _ _ _ _ _ => trivial) fun i q S H' y H2 dd e r g hi yy => ?_)⟩))
    obtain ⟨e2, c, hc, rfl⟩ := yy
    refine same_y e2 r ?_
    rw [List.getElem?_map] at hi
    rw [← Array.getElem?_toList] at hc
    rw [hc] at hi
    simp at hi
    subst hi
    rfl
  | tup ds =>
    obtain ⟨a, vs, rfl, e, rs⟩ := r
    refine .inr (.inl ⟨a, rfl, ⟨vs, e⟩, post_ok q hs _ _ .none (wd_walk walk_tup rs.length (fun q S H' e' r g => e'.tup.tup _ _ e) fun i q S H' y H2 dd e r g hi yy => ?_)⟩)
    obtain ⟨e2, hx⟩ := yy
    refine same_y e2 r ?_
    obtain ⟨v', hv, rv⟩ := (rs.mono e.pre e.tup).get hi
    rw [hx] at hv; cases hv
    exact rv
  | ptp ds =>
    obtain ⟨a, vs, ob, rfl, e0, _, rs⟩ := r
    have e : SqT X.K H a vs := .inl (.inr ⟨ob, e0⟩)
    refine .inr (.inl ⟨a, rfl, ⟨vs, e⟩, post_ok q hs _ _ .none (wd_walk walk_tup rs.length (fun q S H' e' r g => e'.tup.tup _ _ e) fun i q S H' y H2 dd e r g hi yy => ?_)⟩)
    obtain ⟨e2, hx⟩ := yy
    refine same_y e2 r ?_
    obtain ⟨v', hv, rv⟩ := (rs.mono e.pre e.tup).get hi
    rw [hx] at hv; cases hv
    exact rv
  | ref n =>
    obtain ⟨a, ea, rfl⟩ := r
    simp only at q
    split at q
    · rename_i ds hd
      obtain ⟨x, ex, vs, rfl, rs⟩ := hs.get n a _ ea hd
      have lst : ∀ q S H', Ext (gX X) p H q H' → RS (gX X) q S H' → S[n]? = some (.lst ds) → ∃ us, H' a = some (.lst us) ∧ RDs (gX X) q H' ds us := fun q S H' e r g => by
        obtain ⟨x, ex, us, rfl, rs⟩ := r.get n a _ (e.pre.get ea) g
        exact ⟨us, ex, rs⟩
      refine .inl ⟨a, rfl, ⟨vs, .of ex⟩, post_ok q hs _ _ .none ⟨fun i q S H' e r g hi => ?_, fun q S H' e r g => ?_, fun i q S H' y H2 dd e r g hi yy => ?_⟩⟩
      · obtain ⟨us, eu, ru⟩ := lst q S H' e r g
        have hi' : i < us.length := by rw [← ru.length]; exact hi
        exact ⟨us, us[i], .of eu, by simp [hi']⟩
      · obtain ⟨us, eu, ru⟩ := lst q S H' e r g
        exact ⟨us, .of eu, by rw [← ru.length]; exact Nat.le_refl _⟩
      · obtain ⟨us, eu, ru⟩ := lst q S H' e r g
        obtain ⟨e2, hx⟩ := yy
        refine same_y e2 r ?_
        obtain ⟨v', hv, rv⟩ := ru.get hi
        have := hx us (.of eu)
        rw [this] at hv; cases hv
        exact rv
    · rename_i kvs hd
      obtain ⟨x, ex, ws, rfl, rk⟩ := hs.get n a _ ea hd
      refine .inr (.inr (.inr (.inl ⟨a, ws, rfl, ex, fun od hno => ?_⟩)))
      have e0 : Ext (gX X) p H p (upd H a (.frz od (.dK ws))) := Ext.set (mem_of_get ea) ex (.inl rfl) (fun _ _ z => by cases z)
      have el : lockS (some n) S = S.set n (.fd kvs) := by simp only [lockS, hd]
      refine post_ok q hs _ _ (by rw [el]; exact .some ea ex hno hd rk) (wd_keys ea upd_same (rk.mono e0.pre e0.tup) fun q S H' e r g => e.frz _ _ _ upd_same)
    · rename_i kvs hd
      obtain ⟨x, ex, ob, ws, rfl, rk⟩ := hs.get n a _ ea hd
      exact .inr (.inr (.inr (.inr (.inl ⟨a, ob, ws, rfl, ex, post_ok q hs _ _ .none (wd_keys ea ex rk fun q S H' e r g => e.frz _ _ _ ex)⟩))))
    · rename_i kvs hd
      obtain ⟨x, ex, ws, rfl, rk⟩ := hs.get n a _ ea hd
      refine .inr (.inr (.inr (.inr (.inr (.inl ⟨a, ws, rfl, ex, fun od hno => ?_⟩)))))
      have e0 : Ext (gX X) p H p (upd H a (.frz od (DictN X.prog X.w a ws))) := Ext.set (mem_of_get ea) ex (.inr (.inl ⟨_, _, _, _, rfl⟩)) (fun _ _ z => by cases z)
      have el : lockS (some n) S = S.set n (.fn kvs) := by simp only [lockS, hd]
      refine post_ok q hs _ _ (by rw [el]; exact .tup ea ex hno hd rk) (wd_keysN (rk.mono e0.pre e0.tup) fun q S H' e r g => e.frz _ _ _ upd_same)
    · rename_i kvs hd
      obtain ⟨x, ex, ob, ws, rfl, rk⟩ := hs.get n a _ ea hd
      exact .inr (.inr (.inr (.inr (.inr (.inr ⟨a, ob, ws, rfl, ex, post_ok q hs _ _ .none (wd_keysN rk fun q S H' e r g => e.frz _ _ _ ex)⟩)))))
    · exact q.elim
theorem mi_any {tg e : Expr} {m : En → Sto → Rs D} (he : ME X W e m) : MI X W tg e (iA m) :=
  PI.imp (pi_any he) fun σ H R q => by
    obtain ⟨p, S, E, hs, he, q⟩ := q
    exact lE_step hs he (post_mono (fun d S1 p1 H1 x1 hs1 q1 v rv => ai_read hs1 rv q1) (post_bind q))
end
end M

namespace M
open PySem L2

section
variable {X : Cx} {W : XW}
theorem Lk.ext {p : List Addr} {H H2 : Hp} {S S2 : Sto} {lk : Option Nat} (l : Lk X p H S lk H2 S2) : Ext (gX X) p H p H2 := by
  cases l with
  | none => exact Ext.refl _ _
  | some e1 e2 e3 e4 e5 => exact Ext.set (mem_of_get e1) e2 (.inl rfl) (fun _ _ z => by cases z)
  | tup e1 e2 e3 e4 e5 => exact Ext.set (mem_of_get e1) e2 (.inr (.inl ⟨_, _, _, _, rfl⟩)) (fun _ _ z => by cases z)
theorem Lk.rs {p : List Addr} {H H2 : Hp} {S S2 : Sto} {lk : Option Nat} (l : Lk X p H S lk H2 S2) (hs : RS (gX X) p S H) : RS (gX X) p S2 H2 := by
  cases l with
  | none => exact hs
  | some e1 e2 e3 e4 e5 => exact hs.set e1 e4 e2 (.inl rfl) ⟨_, _, rfl, e5⟩
  | tup e1 e2 e3 e4 e5 => exact hs.set e1 e4 e2 (.inr (.inl ⟨_, _, _, _, rfl⟩)) ⟨_, _, rfl, e5⟩
/-- the lock's end -/
inductive Un (X : Cx) (H' : Hp) : Hp → Prop where
  | none : Un X H' H'
  | some {a : Addr} {ob : Obj} {u : HO} : H' a = some (.frz ob u) → (∀ o' u', X.H_0 a ≠ some (.frz o' u')) → Un X H' (upd H' a u)
theorem unl_read {α : Type} {p q : List Addr} {H H2 H3 : Hp} {S S2 S3 : Sto} {lk : Option Nat} {x : α} {k : α → Sto → List Addr → Hp → Prop} (l : Lk X p H S lk H2 S2) (e : Ext (gX X) p H2 q H3) (hs : RS (gX X) q S3 H3)
    (h : post (gX X) W p H (unl lk x S3) k) : ∃ H4 S4, Un X H3 H4 ∧ Ext (gX X) p H q H4 ∧ RS (gX X) q S4 H4 ∧ Keep (gX X) H3 H4 ∧ k x S4 q H4 := by
  have e0 := l.ext
  cases l with
  | none => exact ⟨H3, S3, .none, e, hs, Keep.refl _, h q H3 e hs⟩
  | @some n a od ws kvs e1 e2 e3 e4 e5 =>
    unfold unl at h
    simp only at h
    split at h
    · rename_i kvs' ho'
      have hf : H3 a = some (.frz od (.dK ws)) := e.frz _ _ _ upd_same
      obtain ⟨y, ey, ob', ws', rfl, ro⟩ := hs.get n a _ (e.pre.get e1) ho'
      rw [hf] at ey; cases ey
      have hx : Ext (gX X) p H q (upd H3 a (.dK ws)) := Ext.unlock (e0.trans e) (mem_of_get e1) e2 (.inl rfl) hf (.inl rfl)
      have hr : RS (gX X) q (S3.set n (.dk kvs')) (upd H3 a (.dK ws)) := hs.set (e.pre.get e1) ho' hf (.inl rfl) ⟨ws, rfl, ro⟩
      exact ⟨_, _, .some hf e3, hx, hr, Keep.set hf (.inl rfl), h q _ hx hr⟩
    · rename_i kvs' ho'
      have hf : H3 a = some (.frz od (.dK ws)) := e.frz _ _ _ upd_same
      obtain ⟨y, ey, ob', ws', rfl, ro⟩ := hs.get n a _ (e.pre.get e1) ho'
      rw [hf] at ey; cases ey
    · exact h.elim
  | @tup n a od ws kvs e1 e2 e3 e4 e5 =>
    unfold unl at h
    simp only at h
    split at h
    · rename_i kvs' ho'
      have hf : H3 a = some (.frz od (DictN X.prog X.w a ws)) := e.frz _ _ _ upd_same
      obtain ⟨y, ey, ob', ws', rfl, ro⟩ := hs.get n a _ (e.pre.get e1) ho'
      rw [hf] at ey; cases ey
    · rename_i kvs' ho'
      have hf : H3 a = some (.frz od (DictN X.prog X.w a ws)) := e.frz _ _ _ upd_same
      obtain ⟨y, ey, ob', ws', rfl, ro⟩ := hs.get n a _ (e.pre.get e1) ho'
      rw [hf] at ey
      have sf : Safe (.frz od (DictN X.prog X.w a ws)) := .inr (.inr ⟨_, _, _, _, _, rfl⟩)
      have ey := Option.some.inj ey
      injection ey with ey1 ey2
      have hx : Ext (gX X) p H q (upd H3 a (DictN X.prog X.w a ws)) := Ext.unlock (e0.trans e) (mem_of_get e1) e2 (.inr ⟨_, _, _, _, rfl⟩) hf sf
      have hr : RS (gX X) q (S3.set n (.dn kvs')) (upd H3 a (DictN X.prog X.w a ws)) := hs.set (e.pre.get e1) ho' hf sf ⟨ws', ey2, ro⟩
      exact ⟨_, _, .some hf e3, hx, hr, Keep.set hf sf, h q _ hx hr⟩
    · exact h.elim
def gZ (X : Cx) (Z : Ends) : Ends where
  nx := fun σ H => ∃ H4, Un X H H4 ∧ Z.nx σ H4
  rt := fun v H => ∃ H4, Un X H H4 ∧ Z.rt v H4
  bk := Z.bk
  ct := Z.ct
theorem Un.inv {pins : List (Addr × Obj)} {σ : St} {H H4 : Hp} {s : Shared} (u : Un X H H4) (I : Inv X pins σ H s) : Inv X pins σ H4 s := by
  cases u with
  | none => exact I
  | some e hn => exact I.unlock e hn
theorem ps_unl {st : Stmt} {t : TS} (h : PS X st t) : PS X st (fun Z σ H => t (gZ X Z) σ H) := by
  refine ⟨fun pins s σ H Z I hw => ?_⟩
  refine thn (h.run pins s σ H _ I hw) fun f s1 q => ?_
  cases f with
  | next => obtain ⟨σ', H', I2, H4, u, q⟩ := q; exact ⟨σ', H4, u.inv I2, q⟩
  | brk => exact q
  | cont => exact q
  | ret v => obtain ⟨x, σ', H', I2, r, H4, u, q⟩ := q; exact ⟨x, σ', H4, u.inv I2, r, q⟩
theorem pe_unl {e : Expr} {t : TE} (h : PE X e t) : PE X e (fun σ H Q => t σ H fun v H' => ∃ H4, Un X H' H4 ∧ Q v H4) := by
  refine ⟨fun pins s σ H Q I hw => ?_⟩
  refine thn (h.run pins s σ H _ I hw) fun v s1 ⟨x, H1, I1, r, H4, u, q⟩ => ⟨x, H4, u.inv I1, r, q⟩

/-! ### for -/
open Classical in
noncomputable def loop (g : Sto → Prop) (body : D → En → Sto → Rs Fl) : List D → En → Sto → Rs Fl
  | [], E, S => if g S then .ok (.nx E) S else .bad
  | d :: r, E, S => if g S then (body d E S).bind fun fl S1 => match fl with
      | .nx E1 => loop g body r E1 S1
      | .ct E1 => loop g body r E1 S1
      | .bk E1 => .ok (.nx E1) S1
      | .rt v => .ok (.rt v) S1
    else .bad
noncomputable def sFor (mi : En → Sto → Rs AI) (g : D → En → Sto → Rs En) (mb : En → Sto → Rs Fl) : En → Sto → Rs Fl := fun E S => (mi E S).bind fun ai S1 =>
  (loop ai.g (fun d E S => (g d E S).bind mb) ai.items E (lockS ai.lk S1)).bind fun fl S2 => unl ai.lk fl S2
theorem ms_for {tg iter : Expr} {body : List Stmt} {mi : En → Sto → Rs AI} {g : D → En → Sto → Rs En} {mb : En → Sto → Rs Fl} {pos : Pos} (hp : PassesOwn (model X.prog X.w) X.A X.env X.xe) (hc : X.calm = true) (hi : MI X W tg iter mi) (hg : MG X W tg g) (hb : MSs X W body mb)
    (hs : ∀ x, foldedSetIterable iter X.env x = pure x := by intro _; rfl) : MS X W (.For tg iter body [] pos) (sFor mi g mb) :=
  PS.imp (ps_unl (ps_for hp hc hi hg hb hs)) fun Z σ H q => by
    obtain ⟨p, S, E, hs, he, q⟩ := q
    refine ⟨p, S, E, hs, he, post_mono (fun ai S1 p1 H1 x1 hs1 q1 J H2 lk wd => ?_) (post_bind q)⟩
    have hs2 := lk.rs hs1
    have x2 := lk.ext
    generalize lockS ai.lk S1 = S2 at lk hs2 q1
    refine ⟨fun i m σ H => ∃ p3 S3 E3, m = ai.items.length - i ∧ i ≤ ai.items.length ∧ Ext (gX X) p1 H2 p3 H ∧ RS (gX X) p3 S3 H ∧ RE (gX X) p3 H E3 σ ∧
      post (gX X) W p1 H1 (loop ai.g (fun d E S => (g d E S).bind mb) (ai.items.drop i) E3 S3) (fun fl S' _ _ => post (gX X) W p1 H1 (unl ai.lk fl S') (kS (gX X) Z)),
      ⟨ai.items.length, p1, S2, E, by simp, Nat.zero_le _, Ext.refl _ _, hs2, (he.mono x1.pre x1.tup).mono x2.pre x2.tup, by simpa using post_bindB q1⟩, ?_⟩
    rintro i m σ3 H3 ⟨p3, S3, E3, rfl, hi, x3, hs3, he3, q3⟩
    by_cases hlt : i < ai.items.length
    · have hd : ai.items[i]? = some ai.items[i] := by simp [hlt]
      rw [List.drop_eq_getElem_cons hlt] at q3
      unfold loop at q3
      split at q3
      · rename_i hG
        refine .inr ⟨wd.go i p3 S3 H3 x3 hs3 hG hlt, fun σ H => ∃ p3 S3 E3, ai.items.length - (i + 1) = ai.items.length - (i + 1) ∧ i + 1 ≤ ai.items.length ∧ Ext (gX X) p1 H2 p3 H ∧ RS (gX X) p3 S3 H ∧ RE (gX X) p3 H E3 σ ∧
          post (gX X) W p1 H1 (loop ai.g (fun d E S => (g d E S).bind mb) (ai.items.drop (i + 1)) E3 S3) (fun fl S' _ _ => post (gX X) W p1 H1 (unl ai.lk fl S') (kS (gX X) Z)), fun σ' H' w => ⟨ai.items.length - (i + 1), ?_, w⟩, fun x H4 y => ?_⟩
        · omega
        · obtain ⟨x4, hs4, rx⟩ := wd.yld i p3 S3 H3 x H4 _ x3 hs3 hG hd y
          have x04 : Ext (gX X) p1 H1 p3 H4 := (x2.trans x3).trans x4
          refine ⟨p3, S3, E3, ai.items[i], hs4, he3.mono x4.pre x4.tup, rx, post_mono (fun E5 S5 p5 H5 x5 hs5 q5 σ5 he5 => ?_) (post_base x04 (post_bindB (post_bindB q3)))⟩
          refine ⟨p5, S5, E5, hs5, he5, post_mono (fun fl S6 p6 H6 x6 hs6 q6 => ?_) (post_base (x04.trans x5) q5)⟩
          have x36 : Ext (gX X) p1 H2 p6 H6 := ((x3.trans x4).trans x5).trans x6
          cases fl with
          | nx E6 => exact fun σ6 he6 => ⟨p6, S6, E6, rfl, hlt, x36, hs6, he6, q6⟩
          | ct E6 => exact fun σ6 he6 => ⟨p6, S6, E6, rfl, hlt, x36, hs6, he6, q6⟩
          | bk E6 =>
            obtain ⟨H7, S7, un, x7, hs7, k7, q7⟩ := unl_read lk x36 hs6 (q6 p6 H6 (x2.trans x36) hs6)
            intro σ6 he6
            exact ⟨H7, un, q7 σ6 (he6.mono (Pre.refl _) k7)⟩
          | rt v =>
            obtain ⟨H7, S7, un, x7, hs7, k7, q7⟩ := unl_read lk x36 hs6 (q6 p6 H6 (x2.trans x36) hs6)
            intro u ru
            exact ⟨H7, un, q7 u (ru.mono (Pre.refl _) k7)⟩
      · exact q3.elim
    · have hi' : i = ai.items.length := by omega
      subst hi'
      rw [List.drop_length] at q3
      unfold loop at q3
      split at q3
      · rename_i hG
        obtain ⟨H7, S7, un, x7, hs7, k7, q7⟩ := unl_read lk x3 hs3 (q3 p3 H3 (x2.trans x3) hs3)
        exact .inl ⟨wd.stop p3 S3 H3 x3 hs3 hG, H7, un, q7 σ3 (he3.mono (Pre.refl _) k7)⟩
      · exact q3.elim
end
end M

namespace M
open PySem L2

section
variable {X : Cx} {W : XW}
/-! ### while -/
def whileF (c : En → Sto → Rs Bool) (b : En → Sto → Rs Fl) : Nat → En → Sto → Rs Fl
  | 0, _, _ => .bad
  | n + 1, E, S => (c E S).bind fun t S1 => if t = true then (b E S1).bind fun fl S2 => (match fl with
      | .nx E1 => whileF c b n E1 S2
      | .ct E1 => whileF c b n E1 S2
      | .bk E1 => .ok (.nx E1) S2
      | .rt d => .ok (.rt d) S2) else .ok (.nx E) S1
theorem ms_while (n : Nat) {c : Expr} {body : List Stmt} {mc : En → Sto → Rs Bool} {mb : En → Sto → Rs Fl} {pos : Pos} (hp : PassesOwn (model X.prog X.w) X.A X.env X.xe) (hc : MT X W c mc) (hb : MSs X W body mb) : MS X W (.While c body [] pos) (whileF mc mb n) :=
  PS.imp (ps_while hp hc hb) fun Z σ H q => by
    refine ⟨fun m σ H => ∃ p S E, RS (gX X) p S H ∧ RE (gX X) p H E σ ∧ post (gX X) W p H (whileF mc mb m E S) (kS (gX X) Z), ⟨n, q⟩, ?_⟩
    rintro m σ1 H1 ⟨p, S, E, hs, he, q⟩
    cases m with
    | zero => exact q.elim
    | succ m =>
      unfold whileF at q
      refine ⟨p, S, E, hs, he, post_mono (fun t S2 p2 H2 x2 hs2 q2 => ?_) (post_bind q)⟩
      cases t with
      | true =>
        refine ⟨fun σ H => ∃ p S E, RS (gX X) p S H ∧ RE (gX X) p H E σ ∧ post (gX X) W p H (whileF mc mb m E S) (kS (gX X) Z), fun σ' H' w => ⟨m, Nat.lt_succ_self _, w⟩, p2, S2, E, hs2, he.mono x2.pre x2.tup, post_mono (fun fl S3 p3 H3 x3 hs3 q3 => ?_) (post_bind q2)⟩
        cases fl with
        | nx E3 => exact fun σ3 he3 => ⟨p3, S3, E3, hs3, he3, q3⟩
        | ct E3 => exact fun σ3 he3 => ⟨p3, S3, E3, hs3, he3, q3⟩
        | bk E3 => exact post_ok (W := W) (a := Fl.nx E3) q3 hs3
        | rt d => exact post_ok (W := W) (a := Fl.rt d) q3 hs3
      | false => exact post_ok q2 hs2 σ1 (he.mono x2.pre x2.tup)

/-! ### targets of a comprehension: its own names -/
def lGo (K : KX) (W : XW) (vs : List Nat) (g : D → En → Sto → Rs En) : TG := fun v σ H Q => ∃ p S E d, RS K p S H ∧ RE K p H E σ ∧ RD K p H d v ∧ post K W p H (g d E S) fun E' _ p' H' => ∀ σ', RE K p' H' E' σ' → wipe σ' vs = wipe σ vs → Q σ' H'
def lGos (K : KX) (W : XW) (vs : List Nat) (g : List D → En → Sto → Rs En) : TGs := fun us σ H Q => ∃ p S E ds, RS K p S H ∧ RE K p H E σ ∧ RDs K p H ds us ∧ post K W p H (g ds E S) fun E' _ p' H' => ∀ σ', RE K p' H' E' σ' → wipe σ' vs = wipe σ vs → Q σ' H'
abbrev MGo (X : Cx) (W : XW) (vs : List Nat) (tg : Expr) (g : D → En → Sto → Rs En) : Prop := PG X tg (lGo (gX X) W vs g)
abbrev MGos (X : Cx) (W : XW) (vs : List Nat) (tgs : List Expr) (g : List D → En → Sto → Rs En) : Prop := PGs X tgs (lGos (gX X) W vs g)
theorem wipe_ext {σ τ : St} {vs : List Nat} (hl : σ.length = τ.length) (h : ∀ i, i ∉ vs → σ[i]? = τ[i]?) : wipe σ vs = wipe τ vs := by
  induction vs generalizing σ τ with
  | nil =>
    show σ = τ
    exact List.ext_getElem? fun i => h i (by simp)
  | cons v vs ih =>
    show (wipe σ vs).set v none = (wipe τ vs).set v none
    refine List.ext_getElem? fun i => ?_
    by_cases hi : v = i
    · subst hi
      rw [List.getElem?_set_self', List.getElem?_set_self']
      have hl2 : (wipe σ vs).length = (wipe τ vs).length := by rw [wipe_length, wipe_length, hl]
      by_cases hv : v < (wipe σ vs).length
      · simp [hv, hl2 ▸ hv]
      · have hv2 : ¬ v < (wipe τ vs).length := hl2 ▸ hv
        rw [List.getElem?_eq_none (Nat.le_of_not_lt hv), List.getElem?_eq_none (Nat.le_of_not_lt hv2)]
    · rw [List.getElem?_set_ne hi, List.getElem?_set_ne hi]
      by_cases hm : i ∈ vs
      · have z : ∀ (ρ : St), (wipe ρ vs)[i]? = if i < ρ.length then some none else none := fun ρ => by
          clear ih h hl
          induction vs with
          | nil => cases hm
          | cons w ws ih2 =>
            show ((wipe ρ ws).set w none)[i]? = _
            by_cases hw : w = i
            · subst hw
              rw [List.getElem?_set_self']
              by_cases hv : w < ρ.length
              · rw [if_pos hv]
                have : w < (wipe ρ ws).length := by rw [wipe_length]; exact hv
                simp [this]
              · rw [if_neg hv, List.getElem?_eq_none (by rw [wipe_length]; exact Nat.le_of_not_lt hv)]
                rfl
            · rw [List.getElem?_set_ne hw]
              refine ih2 ?_
              rcases List.mem_cons.mp hm with e | e
              · exact absurd e.symm hw
              · exact e
        rw [z σ, z τ, hl]
      · rw [wipe_out hm, wipe_out hm]
        exact h i (by simp only [List.mem_cons, not_or]; exact ⟨fun e => hi e.symm, hm⟩)
theorem wipe_idem (σ : St) (vs : List Nat) : wipe (wipe σ vs) vs = wipe σ vs := wipe_ext (wipe_length _ _) fun i hi => wipe_out hi
theorem wipe_set {σ : St} {vs : List Nat} {i : Nat} {x : Option V} (h : i ∈ vs) : wipe (σ.set i x) vs = wipe σ vs :=
  wipe_ext (by simp) fun j hj => by
    have : i ≠ j := fun e => hj (e ▸ h)
    rw [List.getElem?_set_ne this]
theorem mgo_name {vs : List Nat} {i : Nat} {x : Str} {pos : Pos} (hv : i ∈ vs) (hN : X.N.Nodup) (hi : X.N[i]? = some x) (hx : Loc X.env.scope x) (hf : X.fn x = true ∨ X.env.scope.names.lookup x = some .local := by first | exact .inl rfl | exact .inr rfl | assumption) : MGo X W vs (.Name x pos) (gN i) :=
  PG.imp (pg_name hN hi hx hf) fun v σ H Q q => by
    obtain ⟨p, S, E, d, hs, he, r, q⟩ := q
    exact post_ok q hs _ (he.set r) (wipe_set hv)
theorem mgos_nil {vs : List Nat} : MGos X W vs [] gNil := PGs.imp pgs_nil fun us σ H Q q => by
  obtain ⟨p, S, E, ds, hs, he, r, q⟩ := q
  cases ds with
  | nil => exact ⟨r, post_ok q hs _ he rfl⟩
  | cons d ds => exact q.elim
theorem mgos_cons {vs : List Nat} {e : Expr} {es : List Expr} {g : D → En → Sto → Rs En} {r : List D → En → Sto → Rs En} (h1 : MGo X W vs e g) (h2 : MGos X W vs es r)
    (hs : (assignEach (e :: es) X.env).map (·.2) = assign e X.env :: (assignEach es X.env).map (·.2) := by rfl) : MGos X W vs (e :: es) (gCons g r) :=
  PGs.imp (pgs_cons h1 h2 hs) fun us σ H Q q => by
    obtain ⟨p, S, E, ds, hs, he, rr, q⟩ := q
    cases ds with
    | nil => exact q.elim
    | cons d ds =>
      obtain ⟨v, us, rfl, rv, rvs⟩ := rr
      refine ⟨v, us, rfl, p, S, E, d, hs, he, rv, post_mono (fun E1 S1 p1 H1 x1 hs1 q1 σ1 he1 w1 => ?_) (post_bind q)⟩
      exact ⟨p1, S1, E1, ds, hs1, he1, rvs.mono x1.pre x1.tup, post_mono (fun E2 S2 p2 H2 x2 hs2 q2 σ2 he2 w2 => q2 σ2 he2 (w2.trans w1)) q1⟩
theorem mgo_tup {vs : List Nat} {es : List Expr} {k : Nat} {g : List D → En → Sto → Rs En} {n : Nat} {pos : Pos} (hc : X.calm = true) (h : MGos X W vs es g)
    (hn : (assignEach es X.env).length = n := by rfl) (hst : (assignEach es X.env).findIdx? (·.1) = none := by rfl) : MGo X W vs (.Tuple es k pos) (gT n g) :=
  PG.imp (pg_tup hc h hn hst) fun v σ H Q q => by
    obtain ⟨p, S, E, d, hs, he, r, q⟩ := q
    unfold gT at q
    split at q
    · rename_i ds
      obtain ⟨a, us, rfl, e, rs⟩ := r
      split at q
      · rename_i hl
        exact ⟨a, us, rfl, e, by rw [← rs.length]; exact hl, p, S, E, ds, hs, he, rs, q⟩
      · exact q.elim
    · exact q.elim
theorem RE.wipe {K : KX} {p : List Addr} {H : Hp} {E : En} {σ : St} (vs : List Nat) (h : RE K p H E σ) : RE K p H (wipeE vs E) (L2.wipe σ vs) := by
  refine ⟨by rw [wipeE_len, wipe_length]; exact h.len, fun i d e => ?_⟩
  have hi : i ∉ vs := by
    clear h
    induction vs generalizing E with
    | nil => simp
    | cons v vs ih =>
      have e' : (wipeE vs (E.set v none))[i]? = some (some d) := e
      have h1 := ih e'
      have h2 := wipeE_get vs _ i d e'
      simp only [List.mem_cons, not_or]
      refine ⟨fun z => ?_, h1⟩
      subst z
      rw [List.getElem?_set_self'] at h2
      cases hq : E[i]? with
      | none => rw [hq] at h2; cases h2
      | some x => rw [hq] at h2; cases h2
  obtain ⟨v, e1, r⟩ := h.get i d (wipeE_get vs E i d e)
  exact ⟨v, by rw [wipe_out hi]; exact e1, r⟩

/-! ### what an error does not leave -/
def noX {α : Type} (r : Rs α) : Rs α := match r with
  | .exc _ _ _ => .bad
  | .ok a S => .ok a S
  | .bad => .bad
@[simp] theorem noX_ok {α : Type} (a : α) (S : Sto) : noX (.ok a S) = .ok a S := rfl
abbrev W0 : XW := fun _ _ _ _ _ => False
theorem post_noX {K : KX} {α : Type} {p : List Addr} {H : Hp} {r : Rs α} {k : α → Sto → List Addr → Hp → Prop} (h : post K W p H (noX r) k) : post K W0 p H r k := by
  cases r with
  | ok a S => exact h
  | exc c fs S => exact h.elim
  | bad => exact h

/-! ### a fresh list, not of the store -/
def lTL (K : KX) (W : XW) (m : En → Sto → Rs (List D)) : TE := fun σ H Q => ∃ p S E, RS K p S H ∧ RE K p H E σ ∧ post K W p H (m E S) fun ds _ p' H' => ∀ a vs, H' a = none → vs.length ≤ sizeLine → RDs K p' H' ds vs → Q (.ref a) (upd H' a (.lst vs))
abbrev TL (X : Cx) (W : XW) (e : Expr) (m : En → Sto → Rs (List D)) : Prop := PE X e (lTL (gX X) W m)
open Classical in
noncomputable def compL (g : Sto → Prop) (body : D → Sto → Rs (Option D)) : List D → List D → Sto → Rs (List D)
  | [], acc, S => if g S then .ok acc S else .bad
  | d :: r, acc, S => if g S then (noX (body d S)).bind fun o S1 => (match o with
      | some y => if acc.length < sizeLine then compL g body r (acc ++ [y]) S1 else .bad
      | none => compL g body r acc S1) else .bad
def bodyL (vs : List Nat) (g : D → En → Sto → Rs En) (t : En → Sto → Rs Bool) (m : En → Sto → Rs D) (E : En) : D → Sto → Rs (Option D) := fun d S =>
  (g d (wipeE vs E) S).bind fun E1 S1 => (t E1 S1).bind fun b S2 => if b = true then (m E1 S2).bind fun y S3 => .ok (some y) S3 else .ok none S2
noncomputable def mComp (mi : En → Sto → Rs AI) (vs : List Nat) (g : D → En → Sto → Rs En) (t : En → Sto → Rs Bool) (m : En → Sto → Rs D) : En → Sto → Rs (List D) := fun E S => (mi E S).bind fun ai S1 =>
  (compL ai.g (bodyL vs g t m E) ai.items [] (lockS ai.lk S1)).bind fun ds S2 => unl ai.lk ds S2
/-- the heap without what stands at a -/
def del (H : Hp) (a : Addr) : Hp := fun b => if b = a then none else H b
theorem del_same {H : Hp} {a : Addr} : del H a a = none := by unfold del; rw [if_pos rfl]
theorem del_ne {H : Hp} {a b : Addr} (h : b ≠ a) : del H a b = H b := by unfold del; rw [if_neg h]
theorem upd_del {H : Hp} {a : Addr} {o : HO} (h : H a = some o) : upd (del H a) a o = H := by
  funext b
  by_cases hb : b = a
  · subst hb; rw [upd_same, h]
  · rw [upd_ne hb, del_ne hb]
theorem Keep.del {K : KX} {H : Hp} {a : Addr} {o : HO} (h : H a = some o) (hn : safeO o = true) : Keep K H (del H a) := Keep.of fun b ob e hs => by
  have : b ≠ a := fun z => by subst z; rw [h] at e; cases e; exact hs (.inl hn)
  rw [del_ne this]; exact e
theorem RS.del {K : KX} {p : List Addr} {S : Sto} {H : Hp} {a : Addr} {o : HO} (hs : RS K p S H) (ha : a ∉ p) (h : H a = some o) (hn : safeO o = true) : RS K p S (del H a) :=
  ⟨hs.len, hs.nd, fun n b ob e1 e2 => by
    obtain ⟨x, ex, r⟩ := hs.get n b ob e1 e2
    have : b ≠ a := fun z => ha (by rw [← z]; exact mem_of_get e1)
    exact ⟨x, by rw [del_ne this]; exact ex, r.mono (Pre.refl _) (Keep.del h hn)⟩⟩
theorem Ext.del {K : KX} {p q : List Addr} {H H' : Hp} {a : Addr} {o : HO} (x : Ext K p H q H') (h0 : H a = none) (h : H' a = some o) (hn : safeO o = true) : Ext K p H q (del H' a) :=
  ⟨x.pre, x.tup.trans (Keep.del h hn), fun b ob h1 h2 h3 => ⟨(x.frm b ob h1 h2 h3).1, by rw [del_ne (ne_of_none h2 h0)]; exact (x.frm b ob h1 h2 h3).2⟩, fun b ob u h2 => by rw [del_ne (ne_of_none h2 h0)]; exact x.frz b ob u h2⟩
theorem RS.notin {K : KX} {p : List Addr} {S : Sto} {H : Hp} {a : Addr} (hs : RS K p S H) (h : H a = none) : a ∉ p := fun hm => by
  obtain ⟨n, hn, e⟩ := List.getElem_of_mem hm
  have hl : n < S.length := by rw [← hs.len]; exact hn
  obtain ⟨x, ex, _⟩ := hs.get n a S[n] (by simp [hn, e]) (by simp [hl])
  rw [h] at ex; cases ex
/-- the list being filled at D put back behind an unlock -/
theorem un_back {H H4 : Hp} {a : Addr} {o : HO} (h : H a = some o) (u : Un X (del H a) H4) : H4 a = none ∧ Un X H (upd H4 a o) := by
  generalize hG : del H a = G at u
  cases u with
  | none => subst hG; exact ⟨del_same, by rw [upd_del h]; exact .none⟩
  | @some b ob u e hn =>
    subst hG
    have hb : b ≠ a := fun z => by subst z; rw [del_same] at e; cases e
    refine ⟨by rw [upd_ne (Ne.symm hb)]; exact del_same, ?_⟩
    have e2 : upd (upd (del H a) b u) a o = upd H b u := by
      funext c
      by_cases h1 : c = a
      · subst h1; rw [upd_same, upd_ne (Ne.symm hb), h]
      · rw [upd_ne h1]
        by_cases h2 : c = b
        · subst h2; rw [upd_same, upd_same]
        · rw [upd_ne h2, upd_ne h2, del_ne h1]
    rw [e2]
    rw [del_ne hb] at e
    exact .some e hn
theorem lc_read {mi : En → Sto → Rs AI} {vs : List Nat} {g : D → En → Sto → Rs En} {t : En → Sto → Rs Bool} {m : En → Sto → Rs D} {σ : St} {H : Hp} {Q : VK} (q : lTL (gX X) W (mComp mi vs g t m) σ H Q) :
    tLc (lI X W mi) (lGo (gX X) W0 vs g) (lT (gX X) W0 t) (lE (gX X) W0 m) vs σ H fun v H' => ∃ H4, Un X H' H4 ∧ Q v H4 := by
  obtain ⟨p, S, E, hs, he, q⟩ := q
  refine ⟨p, S, E, hs, he, post_mono (fun ai S1 p1 H1 x1 hs1 q1 J H2 lk wd D hD => ?_) (post_bind q)⟩
  have hs2 := lk.rs hs1
  have x2 := lk.ext
  generalize lockS ai.lk S1 = S2 at lk hs2 q1
  have he2 : RE (gX X) p1 H2 (wipeE vs E) (wipe σ vs) := ((he.mono x1.pre x1.tup).mono x2.pre x2.tup).wipe vs
  refine ⟨fun i n H => ∃ p3 S3 acc us, n = ai.items.length - i ∧ i ≤ ai.items.length ∧ D ∉ p3 ∧ H D = some (.lst us) ∧ us.length ≤ sizeLine ∧ RDs (gX X) p3 H acc us ∧ Ext (gX X) p1 H2 p3 H ∧ RS (gX X) p3 S3 H ∧
    post (gX X) W p1 H1 (compL ai.g (bodyL vs g t m E) (ai.items.drop i) acc S3) (fun ds S' _ _ => post (gX X) W p1 H1 (unl ai.lk ds S') fun ds _ p' H' => ∀ a vs, H' a = none → vs.length ≤ sizeLine → RDs (gX X) p' H' ds vs → Q (.ref a) (upd H' a (.lst vs))),
    ⟨ai.items.length, p1, S2, [], [], by simp, Nat.zero_le _, hs2.notin hD, upd_same, Nat.zero_le _, rfl, Ext.new hD, hs2.frame hD, by simpa using post_bindB q1⟩, ?_⟩
  rintro i n H3 ⟨p3, S3, acc, us, rfl, hi, hn3, hD3, hz3, ra, x3, hs3, q3⟩
  by_cases hlt : i < ai.items.length
  · have hd : ai.items[i]? = some ai.items[i] := by simp [hlt]
    rw [List.drop_eq_getElem_cons hlt] at q3
    unfold compL at q3
    split at q3
    · rename_i hG
      refine .inr ⟨wd.go i p3 S3 H3 x3 hs3 hG hlt, fun H => ∃ p3 S3 acc us, ai.items.length - (i + 1) = ai.items.length - (i + 1) ∧ i + 1 ≤ ai.items.length ∧ D ∉ p3 ∧ H D = some (.lst us) ∧ us.length ≤ sizeLine ∧ RDs (gX X) p3 H acc us ∧ Ext (gX X) p1 H2 p3 H ∧ RS (gX X) p3 S3 H ∧
        post (gX X) W p1 H1 (compL ai.g (bodyL vs g t m E) (ai.items.drop (i + 1)) acc S3) (fun ds S' _ _ => post (gX X) W p1 H1 (unl ai.lk ds S') fun ds _ p' H' => ∀ a vs, H' a = none → vs.length ≤ sizeLine → RDs (gX X) p' H' ds vs → Q (.ref a) (upd H' a (.lst vs))), fun H' w => ⟨ai.items.length - (i + 1), by omega, w⟩, fun x H4 y => ?_⟩
      obtain ⟨x4, hs4, rx⟩ := wd.yld i p3 S3 H3 x H4 _ x3 hs3 hG hd y
      have x04 : Ext (gX X) p1 H1 p3 H4 := (x2.trans x3).trans x4
      have x24 := x3.trans x4
      obtain ⟨_, hD4⟩ := x4.frm D _ hn3 hD3 (fun _ z => by cases z)
      have q4 := post_noX (post_bindB q3)
      unfold bodyL at q4
      refine ⟨p3, S3, wipeE vs E, ai.items[i], hs4, he2.mono x24.pre x24.tup, rx, post_mono (fun E5 S5 p5 H5 x5 hs5 q5 σ5 he5 w5 => ⟨by rw [w5, wipe_idem], ?_⟩) (post_base x04 (post_bindB q4))⟩
      obtain ⟨hn5, hD5⟩ := x5.frm D _ hn3 hD4 (fun _ z => by cases z)
      have x05 := x04.trans x5
      refine ⟨p5, S5, E5, hs5, he5, post_mono (fun b S6 p6 H6 x6 hs6 q6 => ?_) (post_base x05 (post_bindB q5))⟩
      obtain ⟨hn6, hD6⟩ := x6.frm D _ hn5 hD5 (fun _ z => by cases z)
      have x06 := x05.trans x6
      have x26 := (x24.trans x5).trans x6
      cases b with
      | true =>
        refine ⟨p6, S6, E5, hs6, he5.mono x6.pre x6.tup, post_mono (fun y S7 p7 H7 x7 hs7 q7 v rv => ?_) (post_base x06 (post_bindB q6))⟩
        obtain ⟨hn7, hD7⟩ := x7.frm D _ hn6 hD6 (fun _ z => by cases z)
        have x07 := x06.trans x7
        have x27 := x26.trans x7
        have q8 := q7 p7 H7 x07 hs7
        simp only at q8
        split at q8
        · rename_i hz
          have e8 : RDs (gX X) p7 H7 acc us := ra.mono (((x4.trans x5).trans x6).trans x7).pre (((x4.trans x5).trans x6).trans x7).tup
          have hz' : us.length < sizeLine := by rw [← ra.length]; exact hz
          have k8 : Keep (gX X) H7 (upd H7 D (.lst (us ++ [v]))) := Keep.set hD7 (.inl rfl)
          refine ⟨us, hD7, hz', p7, S7, acc ++ [y], us ++ [v], rfl, hlt, hn7, upd_same, by rw [List.length_append]; exact hz', (e8.append (RDs.one rv)).mono (Pre.refl _) k8, ?_, ?_, q8⟩
          · refine ⟨x27.pre, x27.tup.trans k8, fun b ob h1 h2 h3 => ⟨(x27.frm b ob h1 h2 h3).1, ?_⟩, fun b ob u h2 => ?_⟩
            · rw [upd_ne (ne_of_none h2 hD)]; exact (x27.frm b ob h1 h2 h3).2
            · rw [upd_ne (ne_of_none h2 hD)]; exact x27.frz b ob u h2
          · refine ⟨hs7.len, hs7.nd, fun n b ob e1 e2 => ?_⟩
            obtain ⟨z, ez, rz⟩ := hs7.get n b ob e1 e2
            have hb : b ≠ D := fun w => hn7 (by rw [← w]; exact mem_of_get e1)
            exact ⟨z, by rw [upd_ne hb]; exact ez, rz.mono (Pre.refl _) k8⟩
        · exact q8.elim
      | false =>
        have q8 := (q6 p6 H6 x06 hs6)
        exact ⟨p6, S6, acc, us, rfl, hlt, hn6, hD6, hz3, ra.mono ((x4.trans x5).trans x6).pre ((x4.trans x5).trans x6).tup, x26, hs6, q8⟩
    · exact q3.elim
  · have hi' : i = ai.items.length := by omega
    subst hi'
    rw [List.drop_length] at q3
    unfold compL at q3
    split at q3
    · rename_i hG
      have hsD := hs3.del hn3 hD3 rfl
      have xD := x3.del hD hD3 rfl
      obtain ⟨H7, S7, un, x7, hs7, k7, q7⟩ := unl_read lk xD hsD (q3 p3 H3 (x2.trans x3) hs3)
      obtain ⟨hn, un2⟩ := un_back hD3 un
      exact .inl ⟨wd.stop p3 S3 H3 x3 hs3 hG, _, un2, q7 D us hn hz3 (ra.mono (Pre.refl _) ((Keep.del hD3 rfl).trans k7))⟩
    · exact q3.elim
end
end M

namespace M
open PySem L2
section
variable {X : Cx} {W : XW}
/-! ### comprehensions -/
def tYesM : En → Sto → Rs Bool := fun _ S => .ok true S
abbrev MTs (X : Cx) (W : XW) (ifs : List Expr) (t : En → Sto → Rs Bool) : Prop := PTs X ifs (lT (gX X) W t)
theorem mts_nil : MTs X W [] tYesM := ⟨fun pins s σ H Q I h => by
  obtain ⟨p, S, E, hs, he, q⟩ := h
  exact pts_nil.run pins s σ H Q I (show tYes σ H Q from post_ok q hs)⟩
theorem mts_one {c : Expr} {t : En → Sto → Rs Bool} (h : MT X W c t) : MTs X W [c] t := pts_one h
theorem tl_lc {elt tg iter : Expr} {ifs : List Expr} {scope : Scope} {own : List (Str × Nat)} {pos : Pos} {mi : En → Sto → Rs AI} {g : D → En → Sto → Rs En} {t : En → Sto → Rs Bool} {m : En → Sto → Rs D} (hc : X.calm = true) (hN : X.N.Nodup) (hi : MI X W tg iter mi) (ok : BlkOk X.N X.env.scope scope own)
    (hg : ∀ (s : Shared) (H : Hp) (C : Addr) (cl : List (Str × Addr)) (fp : List Addr), MGo (X.blk s H scope (compEnvC scope cl C X.env) fp) W0 (own.map (·.2)) tg g) (ht : ∀ (s : Shared) (H : Hp) (C : Addr) (cl : List (Str × Addr)) (fp : List Addr), MTs (X.blk s H scope (compEnvC scope cl C X.env) fp) W0 ifs t)
    (he : ∀ (s : Shared) (H : Hp) (C : Addr) (cl : List (Str × Addr)) (fp : List Addr), ME (X.blk s H scope (compEnvC scope cl C X.env) fp) W0 elt m) (hs : ∀ x, foldedSetIterable iter X.env x = pure x := by intro _; rfl) :
    TL X W (.ListComp elt [⟨tg, iter, ifs, 0⟩] scope pos) (mComp mi (own.map (·.2)) g t m) := PE.imp (pe_unl (pe_lc hc hN hi ok hg ht he hs)) fun _ _ _ q => lc_read q
/-- the fresh list is taken into the store -/
def mAd (m : En → Sto → Rs (List D)) : En → Sto → Rs D := fun E S => (m E S).bind fun ds S1 => .ok (.ref S1.length) (S1 ++ [.lst ds])
theorem ad_read {m : En → Sto → Rs (List D)} {σ : St} {H : Hp} {Q : VK} (q : lE (gX X) W (mAd m) σ H Q) : lTL (gX X) W m σ H Q := by
  obtain ⟨p, S, E, hs, he, q⟩ := q
  refine ⟨p, S, E, hs, he, post_mono (fun ds S1 p1 H1 x1 hs1 q1 a vs ha hz rv => ?_) (post_bind q)⟩
  exact new_obj hs1 (o := .lst ds) ⟨vs, rfl, rv⟩ q1 ha
theorem me_ad {e : Expr} {m : En → Sto → Rs (List D)} (h : TL X W e m) : ME X W e (mAd m) := PE.imp h fun _ _ _ q => ad_read q
theorem ms_setLc {i : Nat} {y : Str} {py : Pos} {elt tg iter : Expr} {ifs : List Expr} {scope : Scope} {own : List (Str × Nat)} {pos spos : Pos} {mi : En → Sto → Rs AI} {g : D → En → Sto → Rs En} {t : En → Sto → Rs Bool} {m : En → Sto → Rs D} (hc : X.calm = true) (hN : X.N.Nodup) (hy : X.N[i]? = some y) (hyl : X.env.scope.names.lookup y = some .local)
    (hsw : swapsWith (.ListComp elt [⟨tg, iter, ifs, 0⟩] scope pos) (some (.Name y py)) spos.line X.env = pure true) (hi : MI X W tg iter mi) (ok : BlkOk X.N X.env.scope scope own)
    (hg : ∀ (s : Shared) (H : Hp) (C : Addr) (cl : List (Str × Addr)) (fp : List Addr), MGo (X.blk s H scope (compEnvC scope cl C X.env) fp) W0 (own.map (·.2)) tg g) (ht : ∀ (s : Shared) (H : Hp) (C : Addr) (cl : List (Str × Addr)) (fp : List Addr), MTs (X.blk s H scope (compEnvC scope cl C X.env) fp) W0 ifs t)
    (he : ∀ (s : Shared) (H : Hp) (C : Addr) (cl : List (Str × Addr)) (fp : List Addr), ME (X.blk s H scope (compEnvC scope cl C X.env) fp) W0 elt m) (hs : ∀ x, foldedSetIterable iter X.env x = pure x := by intro _; rfl) :
    MS X W (.Assign [.Name y py] (.ListComp elt [⟨tg, iter, ifs, 0⟩] scope pos) spos) (sAsg (mAd (mComp mi (own.map (·.2)) g t m)) (gN i)) :=
  PS.imp (ps_unl (ps_setLc hc hN hy hyl hsw hi ok hg ht he hs)) fun Z σ H q => by
    obtain ⟨p, S, E, hs, he, q⟩ := q
    refine lc_read (mi := mi) (g := g) (t := t) (m := m) (Q := fun v H4 => Z.nx (σ.set i (some v)) H4) (ad_read ?_)
    refine lE_step hs he (post_mono (fun d S1 p1 H1 x1 hs1 q1 v rv => ?_) (post_bind q))
    exact post_ok q1 hs1 _ ((he.mono x1.pre x1.tup).set rv)
/-- a built-in called with one fresh list -/
def mTL (f : List D → Sto → Rs D) (m : En → Sto → Rs (List D)) : En → Sto → Rs D := fun E S => (m E S).bind fun ds S1 => f ds S1
def PrimTL (K : KX) (W : XW) (r : List V → Hp → VK → Prop) (f : List D → Sto → Rs D) : Prop := ∀ (p : List Addr) (S : Sto) (H : Hp) (ds : List D) (vs : List V) (a : Addr) (Q : VK), RS K p S H → RDs K p H ds vs → H a = none → vs.length ≤ sizeLine → post K W p H (f ds S) (kE K Q) → r [.ref a] (upd H a (.lst vs)) Q
theorem tl_args {e : Expr} {m : En → Sto → Rs (List D)} {r : List V → Hp → VK → Prop} {f : List D → Sto → Rs D} (hp : PrimTL (gX X) W r f) {σ : St} {H : Hp} {Q : VK} (q : lE (gX X) W (mTL f m) σ H Q) : (tCons (lTL (gX X) W m) tNil) σ H fun vs H1 => r vs H1 Q := by
  obtain ⟨p, S, E, hs, he, q⟩ := q
  exact ⟨p, S, E, hs, he, post_mono (fun ds S1 p1 H1 x1 hs1 q1 a vs ha hz rv => hp p1 S1 H1 ds vs a Q hs1 rv ha hz q1) (post_bind q)⟩
theorem me_tlB {x : Str} {id : String} {r : List V → Hp → VK → Prop} {f : List D → Sto → Rs D} {m : En → Sto → Rs (List D)} {e : Expr} {p pos : Pos} (hc : CallR X (.builtin id) r) (hp : PrimTL (gX X) W r f) (hg : Gl X x) (hm : X.mg x = none) (hv : bootBuiltins x = some (.builtin id)) (ha : TL X W e m) (hn : x ≠ "__name__" := by decide) (hdb : (x == ("__debug__" : Str)) = false := by decide)
    (he : starEach [e] X.env = (false, eval e X.env) :: starEach [] X.env := by rfl) (hpl : (backTo pos (starEach [] X.env)).any (·.1) = false := by rfl) : ME X W (.Call (.Name x p) [e] [] pos) (mTL f m) :=
  PE.imp (pe_callB hc hg hm hv (pa_cons ha pa_nil he) hn hdb he hpl) fun _ _ _ q => tl_args (e := e) hp q
theorem me_tlTy {x : Str} {T : String} {r : List V → Hp → VK → Prop} {f : List D → Sto → Rs D} {m : En → Sto → Rs (List D)} {e : Expr} {p pos : Pos} (hc : CallR X (.type T) r) (hp : PrimTL (gX X) W r f) (hg : Gl X x) (hm : X.mg x = none) (hv : bootBuiltins x = some (.type T)) (ha : TL X W e m) (hn : x ≠ "__name__" := by decide) (hdb : (x == ("__debug__" : Str)) = false := by decide)
    (he : starEach [e] X.env = (false, eval e X.env) :: starEach [] X.env := by rfl) (hpl : (backTo pos (starEach [] X.env)).any (·.1) = false := by rfl) : ME X W (.Call (.Name x p) [e] [] pos) (mTL f m) :=
  PE.imp (pe_callTy hc hg hm hv (pa_cons ha pa_nil he) hn hdb he hpl) fun _ _ _ q => tl_args (e := e) hp q
/-- a fresh list that is written -/
theorem tl_lst {es : List Expr} {t : En → Sto → Rs (List D)} {pos : Pos} (h : MA X W es t) : TL X W (.List es pos) (fun E S => (t E S).bind fun ds S1 => if ds.length ≤ sizeLine then .ok ds S1 else .bad) :=
  PE.imp (pe_lst h) fun σ H Q q => by
    obtain ⟨p, S, E, hs, he, q⟩ := q
    refine ⟨p, S, E, hs, he, post_mono (fun ds S1 p1 H1 x1 hs1 q1 vs rvs => ?_) (post_bind q)⟩
    split at q1
    · rename_i hl
      have hl' : vs.length ≤ sizeLine := by rw [← rvs.length]; exact hl
      exact ⟨hl', fun a ha => post_ok q1 hs1 a vs ha hl' rvs⟩
    · exact q1.elim
end

/-! ### what is no more held is dropped -/
mutual
def lowD (n : Nat) : D → Bool
  | .tup ds => lowDs n ds
  | .ref m => decide (m < n)
  | .non => true
  | .bl _ => true
  | .int _ => true
  | .str _ => true
  | .raw _ => true
  | .rl _ => true
  | .ptp ds => lowDs n ds
def lowDs (n : Nat) : List D → Bool
  | [] => true
  | d :: r => lowD n d && lowDs n r
end
def lowO (n : Nat) : O → Bool
  | .lst ds => lowDs n ds
  | .dk kvs => lowDs n (kvs.map (·.2))
  | .fd kvs => lowDs n (kvs.map (·.2))
  | .dn kvs => lowDs n (kvs.map (·.2))
  | .fn kvs => lowDs n (kvs.map (·.2))
  | .ex _ fs => lowDs n (fs.map (·.2))
  | .tb _ _ => true
def lowS (n : Nat) (S : Sto) : Bool := S.all (lowO n)
section
variable {K : KX} {p r : List Addr} {H : Hp}
mutual
theorem RD.cut : ∀ {d : D} {v : V}, RD K (p ++ r) H d v → lowD p.length d = true → RD K p H d v
  | .non, _, h, _ => h
  | .bl _, _, h, _ => h
  | .int _, _, h, _ => h
  | .str _, _, h, _ => h
  | .raw _, _, h, _ => h
  | .rl _, _, h, _ => h
  | .ref n, v, h, b => by
    obtain ⟨a, e, rfl⟩ := h
    have hb : n < p.length := of_decide_eq_true b
    rw [List.getElem?_append_left hb] at e
    exact ⟨a, e, rfl⟩
  | .tup ds, v, h, b => by
    obtain ⟨a, vs, rfl, e, rs⟩ := h
    exact ⟨a, vs, rfl, e, RDs.cut rs b⟩
  | .ptp ds, v, h, b => by
    obtain ⟨a, vs, ob, rfl, e, d, rs⟩ := h
    exact ⟨a, vs, ob, rfl, e, d, RDs.cut rs b⟩
theorem RDs.cut : ∀ {ds : List D} {vs : List V}, RDs K (p ++ r) H ds vs → lowDs p.length ds = true → RDs K p H ds vs
  | [], _, h, _ => h
  | d :: ds, vs, h, b => by
    obtain ⟨v, us, rfl, h1, h2⟩ := h
    have b' : (lowD p.length d && lowDs p.length ds) = true := b
    rw [Bool.and_eq_true] at b'
    exact ⟨v, us, rfl, RD.cut h1 b'.1, RDs.cut h2 b'.2⟩
end
mutual
theorem low_key {n : Nat} : ∀ k : NestedKey, lowD n (nkD k) = true
  | .none => rfl
  | .num _ => rfl
  | .text _ => rfl
  | .tup ks => low_keys ks
theorem low_keys {n : Nat} : ∀ ks : List NestedKey, lowDs n (nkDs ks) = true
  | [] => rfl
  | k :: ks => by
    show (lowD n (nkD k) && lowDs n (nkDs ks)) = true
    rw [low_key k, low_keys ks]; rfl
end
theorem low_nks {n : Nat} {α : Type} : ∀ kvs : List (NestedKey × α), lowDs n (kvs.map fun kv => nkD kv.1) = true
  | [] => rfl
  | kv :: r => by
    show (lowD n (nkD kv.1) && lowDs n (r.map fun kv => nkD kv.1)) = true
    rw [low_key, low_nks r]; rfl
theorem RO.cut {a : Addr} : ∀ {o : O} {h : HO}, RO K (p ++ r) H a o h → lowO p.length o = true → RO K p H a o h
  | .lst ds, h, q, b => by
    obtain ⟨vs, rfl, rs⟩ := q
    exact ⟨vs, rfl, rs.cut b⟩
  | .dk kvs, h, q, b => by
    obtain ⟨ws, rfl, rk⟩ := q
    exact ⟨ws, rfl, rk.1, rk.2.cut b⟩
  | .fd kvs, h, q, b => by
    obtain ⟨ob, ws, rfl, rk⟩ := q
    exact ⟨ob, ws, rfl, rk.1, rk.2.cut b⟩
  | .dn kvs, h, q, b => by
    obtain ⟨ws, rfl, rk⟩ := q
    exact ⟨ws, rfl, rk.1, rk.2.1.cut b, rk.2.2.cut (low_nks _)⟩
  | .fn kvs, h, q, b => by
    obtain ⟨ob, ws, rfl, rk⟩ := q
    exact ⟨ob, ws, rfl, rk.1, rk.2.1.cut b, rk.2.2.cut (low_nks _)⟩
  | .ex c fs, h, q, b => by
    obtain ⟨d, rfl, r⟩ := q
    refine ⟨d, rfl, r.imp id ?_⟩
    rintro ⟨e0, dd, ws, e1, e2, e3, e4⟩
    exact ⟨e0, dd, ws, e1, e2, e3, e4.cut b⟩
  | .tb P x, h, q, b => q
end
def gc (n : Nat) (d : D) (S : Sto) : Rs D := if lowD n d && lowS n (S.take n) then .ok d (S.take n) else .ok d S
theorem gc_read {K : KX} {W : XW} {p q : List Addr} {S S' : Sto} {H H' : Hp} {d : D} {v : V} {Q : VK} (hs : RS K p S H) (x : Ext K p H q H') (hs' : RS K q S' H') (rv : RD K q H' d v) (h : post K W p H (gc S.length d S') (kE K Q)) : Q v H' := by
  unfold gc at h
  split at h
  · rename_i hb
    rw [Bool.and_eq_true] at hb
    obtain ⟨r, rfl⟩ := x.pre
    have hl : p.length = S.length := hs.len
    have hb2 : ∀ o ∈ S'.take S.length, lowO p.length o = true := by
      rw [hl]
      exact List.all_eq_true.mp hb.2
    refine h p H' ⟨Pre.refl _, x.tup, fun a o h1 h2 h3 => ⟨h1, (x.frm a o h1 h2 h3).2⟩, x.frz⟩ ⟨?_, (List.nodup_append.mp hs'.nd).1, fun n a o e1 e2 => ?_⟩ v (rv.cut (by rw [hl]; exact hb.1))
    · have := hs'.len
      rw [List.length_append] at this
      rw [List.length_take]
      omega
    · have hn : n < p.length := (List.getElem?_eq_some_iff.mp e1).1
      have e2' : S'[n]? = some o := by
        rw [List.getElem?_take_of_lt (by omega)] at e2
        exact e2
      obtain ⟨y, ey, ry⟩ := hs'.get n a o (by rw [List.getElem?_append_left hn]; exact e1) e2'
      exact ⟨y, ey, ry.cut (hb2 o (List.mem_of_getElem? e2))⟩
  · exact h q H' x hs' v rv

/-! ### defs -/
def spM (K : KX) (n : Nat) (f : List D → Sto → Rs D) : Sp := fun vs H Q _ => vs.length = n ∧ ∃ p S ds, RS K p S H ∧ RDs K p H ds vs ∧ post K W0 p H (f ds S) (kE K Q)
def startE (n : Nat) (ds : List D) : En := ds.map some ++ List.replicate (n - ds.length) none
def endD (n : Nat) : Fl → Sto → Rs D := fun fl S => match fl with
  | .rt d => gc n d S
  | .nx _ => gc n .non S
  | .bk _ => .bad
  | .ct _ => .bad
def mDef (n : Nat) (mb : En → Sto → Rs Fl) : List D → Sto → Rs D := fun ds S => (mb (startE n ds) S).bind (endD S.length)
theorem RE.start {K : KX} {p : List Addr} {H : Hp} {ds : List D} {vs : List V} (N : List Str) (r : RDs K p H ds vs) : RE K p H (startE N.length ds) (start N vs) := by
  have hl := r.length
  refine ⟨by simp [startE, L2.start, hl], fun i d e => ?_⟩
  unfold startE at e
  by_cases hi : i < ds.length
  · rw [List.getElem?_append_left (by simpa using hi), List.getElem?_map] at e
    cases hq : ds[i]? with
    | none => rw [hq] at e; cases e
    | some d' =>
      rw [hq] at e
      have e : d' = d := by simpa using e
      subst e
      obtain ⟨v, hv, rv⟩ := r.get hq
      refine ⟨v, ?_, rv⟩
      unfold L2.start
      rw [List.getElem?_append_left (by simpa [← hl] using hi), List.getElem?_map, hv]
      rfl
  · rw [List.getElem?_append_right (by simpa using hi), List.getElem?_replicate] at e
    split at e <;> cases e
section
variable {P : Program} {w : World} {K : PySem.W.Frag} {mg : Str → Option Value} {base : Heap}
theorem ok_def {x qual : Str} {st : Stmt} {f : Addr} {fd : FuncData} {N ps : List Str} {k : Nat} {mb : En → Sto → Rs Fl} (F : Fun K x qual st f fd) (S : FnScope N ps (defScope st))
    (hb : ∀ (cdv : Value) (A : Around) (outer : List Env) (s : Shared) (H : Hp) (E : XK), Room k (A.deeper (PyProof.Rows.envOfC qual (defScope st) s.heap.objs.size f cdv)) → MSs (cxOf CX0 P w K mg base N qual (defScope st) f cdv A outer s H E).nox W0 (defBody st) mb) :
    FnOk P w K mg base CX0 (k + 1) f fd ps (spM ⟨K, P, w⟩ ps.length (mDef N.length mb)) := by
  refine F.ok S (fun vs H Q E h => h.1) (fun cdv A outer s H vs Q E hr h => ?_)
  obtain ⟨hl, p, S', ds, hs, rd, q⟩ := h
  refine ⟨_, hb cdv A outer s H E hr, p, S', startE N.length ds, hs, RE.start N rd, post_mono (fun fl S1 p1 H1 x1 hs1 q1 => ?_) (post_bindB q)⟩
  cases fl with
  | nx E1 => exact fun σ' _ => gc_read (d := .non) (v := .non) hs x1 hs1 rfl q1
  | rt d => exact fun v rv => gc_read hs x1 hs1 rv q1
  | bk E1 => exact q1.elim
  | ct E1 => exact q1.elim
end
section
variable {X : Cx} {W : XW}
def mCl (n : Nat) (f : List D → Sto → Rs D) : List D → Sto → Rs D := fun ds S => if ds.length = n then noX (f ds S) else .bad
theorem me_call {k n : Nat} {f : Addr} {fd : FuncData} {ps : List Str} {mf : List D → Sto → Rs D} {x : Str} {p pos : Pos} {e : Expr} {es : List Expr} {t : En → Sto → Rs (List D)} (F : FnOk X.prog X.w X.K X.mg X.base CX0 k f fd ps (spM (gX X) n mf)) (hr : Room k X.A) (hg : Gl X x) (hm : X.mg x = some (.ref f)) (hk : PySem.W.keepIn X.K (.ref f) = true) (hb : Binds X.K fd ps [])
    (ha : MA X W (e :: es) t) (hdb : (x == ("__debug__" : Str)) = false := by decide) (he : starEach (e :: es) X.env = (false, eval e X.env) :: starEach es X.env := by rfl) (hpl : (backTo pos (starEach es X.env)).any (·.1) = false := by rfl) :
    ME X W (.Call (.Name x p) (e :: es) [] pos) (mN (mCl n mf) t) :=
  PE.imp (pe_call F hr hg hm hk hb .nil pass0 ha hdb he hpl) fun σ H Q q => by
    obtain ⟨p, S, E, hs, he, q⟩ := q
    refine ⟨p, S, E, hs, he, post_mono (fun ds S1 p1 H1 x1 hs1 q1 vs rvs => ?_) (post_bind q)⟩
    show spM (gX X) n mf (vs ++ []) H1 Q E0
    rw [List.append_nil]
    unfold mCl at q1
    split at q1
    · rename_i hl
      exact ⟨by rw [← rvs.length]; exact hl, p1, S1, ds, hs1, rvs, post_noX q1⟩
    · exact q1.elim
theorem me_call0 {k n : Nat} {f : Addr} {fd : FuncData} {ps : List Str} {mf : List D → Sto → Rs D} {x : Str} {p pos : Pos} (F : FnOk X.prog X.w X.K X.mg X.base CX0 k f fd ps (spM (gX X) 0 mf)) (hr : Room k X.A) (hg : Gl X x) (hm : X.mg x = some (.ref f)) (hk : PySem.W.keepIn X.K (.ref f) = true) (hb : Binds X.K fd ps [])
    (hdb : (x == ("__debug__" : Str)) = false := by decide) : ME X W (.Call (.Name x p) [] [] pos) (mN (mCl 0 mf) aNil) :=
  PE.imp (pe_call0 F hr hg hm hk hb .nil pass0 hdb) fun σ H Q q => by
    obtain ⟨p, S, E, hs, he, q⟩ := q
    exact ⟨rfl, p, S, [], hs, rfl, post_noX q⟩
end
end M

namespace M
open PySem L2

/-! ### dicts of data -/
def getK (kvs : List (Key × D)) (k : Key) : Option D := (kvs.find? fun kv => decide (kv.1 = k)).map (·.2)
def setK (kvs : List (Key × D)) (k : Key) (d : D) : List (Key × D) :=
  if (kvs.any fun kv => decide (kv.1 = k)) = true then kvs.map (fun kv => if kv.1 = k then (kv.1, d) else kv) else kvs ++ [(k, d)]
def delK (kvs : List (Key × D)) (k : Key) : List (Key × D) := kvs.filter fun kv => decide (kv.1 ≠ k)
def toKey : D → Option Key
  | .int i => some (.inl i)
  | .str x => some (.inr x)
  | _ => none
section
variable {K : KX} {p : List Addr} {H : Hp}
theorem RKs.cons {k : Key} {d : D} {r : List (Key × D)} {ws : List (Key × V)} (h : RKs K p H ((k, d) :: r) ws) : ∃ v s, ws = (k, v) :: s ∧ RD K p H d v ∧ RKs K p H r s := by
  obtain ⟨h1, h2⟩ := h
  cases ws with
  | nil => simp at h1
  | cons w s =>
    obtain ⟨k', v⟩ := w
    simp at h1
    obtain ⟨v', r', e, rv, rr⟩ := h2
    simp at e
    obtain ⟨rfl, rfl⟩ := e
    obtain ⟨rfl, h1⟩ := h1
    exact ⟨v, s, rfl, rv, h1, rr⟩
theorem RKs.nil {ws : List (Key × V)} (h : RKs K p H [] ws) : ws = [] := by
  have := h.1
  simpa using this
theorem RKs.mk {k : Key} {d : D} {v : V} {r : List (Key × D)} {s : List (Key × V)} (rv : RD K p H d v) (h : RKs K p H r s) : RKs K p H ((k, d) :: r) ((k, v) :: s) :=
  ⟨by simp [h.1], v, s.map (·.2), rfl, rv, h.2⟩
theorem RKs.nil' : RKs K p H [] [] := ⟨rfl, rfl⟩
theorem RKs.val {k : Key} : ∀ {kvs : List (Key × D)} {ws : List (Key × V)}, RKs K p H kvs ws → (∀ d, getK kvs k = some d → ∃ v, valV ws k = some v ∧ RD K p H d v) ∧ (getK kvs k = none → valV ws k = none)
  | [], ws, h => by
    rw [h.nil]
    exact ⟨fun d e => by simp [getK] at e, fun _ => rfl⟩
  | (k', d) :: r, ws, h => by
    obtain ⟨v, s, rfl, rv, rr⟩ := h.cons
    by_cases e : k' = k
    · refine ⟨fun d' q => ⟨v, valV_pos e, ?_⟩, fun q => ?_⟩
      · simp [getK, List.find?_cons, e] at q
        subst q; exact rv
      · simp [getK, List.find?_cons, e] at q
    · have e1 : getK ((k', d) :: r) k = getK r k := by simp [getK, List.find?_cons, e]
      rw [e1, valV_neg e]
      exact RKs.val rr
theorem RKs.any {k : Key} {kvs : List (Key × D)} {ws : List (Key × V)} (h : RKs K p H kvs ws) : (kvs.any fun kv => decide (kv.1 = k)) = ws.any fun kv => decide (kv.1 = k) := by
  have e1 : (kvs.any fun kv => decide (kv.1 = k)) = (kvs.map (·.1)).any fun x => decide (x = k) := by rw [List.any_map]; rfl
  have e2 : (ws.any fun kv => decide (kv.1 = k)) = (ws.map (·.1)).any fun x => decide (x = k) := by rw [List.any_map]; rfl
  rw [e1, e2, h.1]
theorem RKs.repl {k : Key} {d : D} {v : V} (rv : RD K p H d v) : ∀ {kvs : List (Key × D)} {ws : List (Key × V)}, RKs K p H kvs ws → RKs K p H (kvs.map fun kv => if kv.1 = k then (kv.1, d) else kv) (ws.map fun kv => if kv.1 = k then (kv.1, v) else kv)
  | [], ws, h => by rw [h.nil]; exact .nil'
  | (k', d') :: r, ws, h => by
    obtain ⟨v', s, rfl, rv', rr⟩ := h.cons
    simp only [List.map_cons]
    by_cases e : k' = k
    · simp only [e, if_true]; exact .mk rv (RKs.repl rv rr)
    · simp only [e, if_false]; exact .mk rv' (RKs.repl rv rr)
theorem RKs.snoc {k : Key} {d : D} {v : V} (rv : RD K p H d v) {kvs : List (Key × D)} {ws : List (Key × V)} (h : RKs K p H kvs ws) : RKs K p H (kvs ++ [(k, d)]) (ws ++ [(k, v)]) :=
  ⟨by simp [h.1], by simpa using h.2.append (RDs.one rv)⟩
theorem RKs.put {k : Key} {d : D} {v : V} (rv : RD K p H d v) {kvs : List (Key × D)} {ws : List (Key × V)} (h : RKs K p H kvs ws) : RKs K p H (setK kvs k d) (putK ws k v) := by
  unfold setK putK
  rw [h.any (k := k)]
  split
  · exact h.repl rv
  · exact h.snoc rv
theorem RKs.drop {k : Key} : ∀ {kvs : List (Key × D)} {ws : List (Key × V)}, RKs K p H kvs ws → RKs K p H (delK kvs k) (dropK ws k)
  | [], ws, h => by rw [h.nil]; exact .nil'
  | (k', d') :: r, ws, h => by
    obtain ⟨v', s, rfl, rv', rr⟩ := h.cons
    have ih := RKs.drop (k := k) rr
    unfold delK dropK at ih ⊢
    simp only [List.filter_cons]
    by_cases e : k' = k
    · simp only [e, ne_eq, not_true_eq_false, decide_false, Bool.false_eq_true, if_false]; exact ih
    · simp only [e, ne_eq, not_false_eq_true, decide_true, if_true]; exact .mk rv' ih
theorem toKey_read {d : D} {v : V} {k : Key} (r : RD K p H d v) (h : toKey d = some k) : v = kV k := by
  cases d with
  | int i => cases h; exact r
  | str x => cases h; exact r
  | _ => cases h
end

/-! ### the operators -/
def opAdd (x y : D) (S : Sto) : Rs D := match x, y with
  | .int i, .int j => .ok (.int (i + j)) S
  | .tup a, .tup b => if a.length + b.length ≤ sizeLine then .ok (.tup (a ++ b)) S else .bad
  | .str a, .str b => if a.length + b.length ≤ sizeLine then .ok (.str (a ++ b)) S else .bad
  | .ref n, .ref m => match S[n]?, S[m]? with
    | some (.lst a), some (.lst b) => if a.length + b.length ≤ sizeLine then .ok (.ref S.length) (S ++ [.lst (a ++ b)]) else .bad
    | _, _ => .bad
  | _, _ => .bad
def opI (f : Int → Int → Int) (x y : D) (S : Sto) : Rs D := match x, y with
  | .int i, .int j => .ok (.int (f i j)) S
  | _, _ => .bad
def opSub := opI fun i j => i - j
def opMul (x y : D) (S : Sto) : Rs D := match x, y with
  | .int i, .int j => if (-(2 ^ 64) < i ∧ i < 2 ^ 64) ∨ (-(2 ^ 64) < j ∧ j < 2 ^ 64) then .ok (.int (i * j)) S else .bad
  | _, _ => .bad
def opFdiv (x y : D) (S : Sto) : Rs D := match x, y with
  | .int i, .int j => if 0 < j ∧ j < 1073741824 then .ok (.int (i / j)) S else .bad
  | _, _ => .bad
def opMod (x y : D) (S : Sto) : Rs D := match x, y with
  | .int i, .int j => if 0 < j then .ok (.int (i % j)) S else .bad
  | _, _ => .bad
def opPow (x y : D) (S : Sto) : Rs D := match x, y with
  | .int i, .int j => if 0 ≤ j ∧ j ≤ 1000000 ∧ i.natAbs < 2 ^ 64 then .ok (.int (i ^ j.toNat)) S else .bad
  | _, _ => .bad
def cmpI (f : Int → Int → Bool) (x y : D) (S : Sto) : Rs D := match x, y with
  | .int i, .int j => .ok (.bl (f i j)) S
  | _, _ => .bad
def opLt := cmpI fun i j => decide (i < j)
def opLe := cmpI fun i j => decide (i ≤ j)
def opGt := cmpI fun i j => decide (j < i)
def opGe := cmpI fun i j => decide (j ≤ i)
def opNeg (x : D) (S : Sto) : Rs D := match x with
  | .int i => .ok (.int (-i)) S
  | _ => .bad
section
variable {X : Cx} {W : XW}
theorem pr_int {g : Int → Int → V} {f : Int → Int → D} (h : ∀ K p H i j, RD K p H (f i j) (g i j)) {K : KX} : Prim2 K W (rI0 g) (fun x y S => match x, y with | .int i, .int j => .ok (f i j) S | _, _ => .bad) := by
  intro p S H x y v u Q hs rx ry q
  cases x <;> cases y <;> first
    | exact q.elim
    | exact ⟨_, _, rx, ry, post_ok q hs _ (h _ _ _ _ _)⟩
theorem pr_sub {K : KX} : Prim2 K W (rI0 fun i j => .int (i - j)) opSub := pr_int (f := fun i j => .int (i - j)) fun _ _ _ _ _ => rfl
theorem pr_lt {K : KX} : Prim2 K W (rI0 fun i j => .bl (decide (i < j))) opLt := pr_int (f := fun i j => .bl (decide (i < j))) fun _ _ _ _ _ => rfl
theorem pr_le {K : KX} : Prim2 K W (rI0 fun i j => .bl (decide (i ≤ j))) opLe := pr_int (f := fun i j => .bl (decide (i ≤ j))) fun _ _ _ _ _ => rfl
theorem pr_gt {K : KX} : Prim2 K W (rI0 fun i j => .bl (decide (j < i))) opGt := pr_int (f := fun i j => .bl (decide (j < i))) fun _ _ _ _ _ => rfl
theorem pr_ge {K : KX} : Prim2 K W (rI0 fun i j => .bl (decide (j ≤ i))) opGe := pr_int (f := fun i j => .bl (decide (j ≤ i))) fun _ _ _ _ _ => rfl
theorem pr_mul {K : KX} : Prim2 K W (rI CMul fun i j => .int (i * j)) opMul := by
  intro p S H x y v u Q hs rx ry q
  cases x <;> cases y <;> try exact q.elim
  simp only [opMul] at q
  split at q
  · rename_i hc
    exact ⟨_, _, rx, ry, hc, post_ok q hs _ rfl⟩
  · exact q.elim
theorem pr_fdiv {K : KX} : Prim2 K W (rI CDiv fun i j => .int (i / j)) opFdiv := by
  intro p S H x y v u Q hs rx ry q
  cases x <;> cases y <;> try exact q.elim
  simp only [opFdiv] at q
  split at q
  · rename_i hc
    exact ⟨_, _, rx, ry, hc, post_ok q hs _ rfl⟩
  · exact q.elim
theorem pr_mod {K : KX} : Prim2 K W (rI (fun _ j => 0 < j) fun i j => .int (i % j)) opMod := by
  intro p S H x y v u Q hs rx ry q
  cases x <;> cases y <;> try exact q.elim
  simp only [opMod] at q
  split at q
  · rename_i hc
    exact ⟨_, _, rx, ry, hc, post_ok q hs _ rfl⟩
  · exact q.elim
theorem pr_pow {K : KX} : Prim2 K W (rI CPow fun i j => .int (i ^ j.toNat)) opPow := by
  intro p S H x y v u Q hs rx ry q
  cases x <;> cases y <;> try exact q.elim
  simp only [opPow] at q
  split at q
  · rename_i hc
    exact ⟨_, _, rx, ry, hc, post_ok q hs _ rfl⟩
  · exact q.elim
theorem pr_neg {K : KX} : Prim1 K W (rU fun i => .int (-i)) opNeg := by
  intro p S H x v Q hs rx q
  cases x <;> try exact q.elim
  exact ⟨_, rx, post_ok q hs _ rfl⟩
/-- a list of the store as HandS has it -/
theorem lst_at {K : KX} {p : List Addr} {S : Sto} {H : Hp} {n : Nat} {a : Addr} {ds : List D} (hs : RS K p S H) (ea : p[n]? = some a) (h : S[n]? = some (.lst ds)) : ∃ vs, H a = some (.lst vs) ∧ RDs K p H ds vs := by
  obtain ⟨x, ex, vs, rfl, rs⟩ := hs.get n a _ ea h
  exact ⟨vs, ex, rs⟩
theorem pr_add : Prim2 (gX X) W (fun x y H Q => rI0 (fun i j => .int (i + j)) x y H Q ∨ rCatA X.K x y H Q ∨ (∃ i j, x = .str i ∧ y = .str j ∧ i.length + j.length ≤ sizeLine ∧ Q (.str (i ++ j)) H) ∨ rCat x y H Q) opAdd := by
  intro p S H x y v u Q hs rx ry q
  cases x <;> cases y <;> try exact q.elim
  · exact .inl ⟨_, _, rx, ry, post_ok q hs _ rfl⟩
  · rename_i a b
    simp only [opAdd] at q
    split at q
    · rename_i hz
      exact .inr (.inr (.inl ⟨_, _, rx, ry, hz, post_ok q hs _ rfl⟩))
    · exact q.elim
  · rename_i a b
    obtain ⟨x1, xs, rfl, e1, r1⟩ := rx
    obtain ⟨y1, ys, rfl, e2, r2⟩ := ry
    simp only [opAdd] at q
    split at q
    · rename_i hz
      have hr : RDs (gX X) p H (a ++ b) (xs ++ ys) := r1.append r2
      refine .inr (.inl ⟨x1, y1, xs, ys, rfl, rfl, e1, e2, by rw [← r1.length, ← r2.length]; exact hz, fun hx => ?_, fun hx hy => ?_, fun hx hy a' ha' => ?_⟩)
      · subst hx
        exact post_ok q hs _ ⟨y1, ys, rfl, e2, by simpa using hr⟩
      · subst hy
        exact post_ok q hs _ ⟨x1, xs, rfl, e1, by simpa using hr⟩
      · exact new_tup hs hr q ha'
    · exact q.elim
  · rename_i n m
    obtain ⟨a, ea, rfl⟩ := rx
    obtain ⟨b, eb, rfl⟩ := ry
    simp only [opAdd] at q
    split at q
    · rename_i da db h1 h2
      obtain ⟨va, e1, r1⟩ := lst_at hs ea h1
      obtain ⟨vb, e2, r2⟩ := lst_at hs eb h2
      split at q
      · rename_i hz
        exact .inr (.inr (.inr ⟨a, b, va, vb, rfl, rfl, e1, e2, by rw [← r1.length, ← r2.length]; exact hz, fun c hc => new_obj hs (o := .lst (da ++ db)) ⟨_, rfl, r1.append r2⟩ q hc⟩))
      · exact q.elim
    · exact q.elim
theorem or_add : OpR X (binaryOp .Add) (fun x y H Q => rI0 (fun i j => .int (i + j)) x y H Q ∨ rCatA X.K x y H Q ∨ (∃ i j, x = .str i ∧ y = .str j ∧ i.length + j.length ≤ sizeLine ∧ Q (.str (i ++ j)) H) ∨ rCat x y H Q) := op_add.or (op_catA.or (op_add_str.or op_cat))
theorem pr_iadd {K : KX} : Prim2 K W (rI0 fun i j => .int (i + j)) (opI fun i j => i + j) := pr_int (f := fun i j => .int (i + j)) fun _ _ _ _ _ => rfl

/-! ### equality -/
mutual
def toPyW (f : Nat → Option PyData) : D → Option PyData
  | .non => some .none
  | .bl b => some (.bool b)
  | .int i => some (.int i)
  | .str x => some (.str x)
  | .tup ds => (toPysW f ds).map .tuple
  | .ref n => f n
  | .raw _ => none
  | .rl ns => some (.list (ns.map .int))
  | .ptp ds => (toPysW f ds).map .tuple
def toPysW (f : Nat → Option PyData) : List D → Option (List PyData)
  | [] => some []
  | d :: ds => (toPyW f d).bind fun x => (toPysW f ds).map (x :: ·)
end
def listPy (f : Nat → Option PyData) (S : Sto) (n : Nat) : Option PyData := match S[n]? with
  | some (.lst ds) => (toPysW f ds).map .list
  | _ => none
def toPy (S : Sto) : D → Option PyData := toPyW (listPy (fun _ => none) S)
mutual
theorem toPyW_read {K : KX} {p : List Addr} {H : Hp} {f : Nat → Option PyData} (hf : ∀ n pd a, f n = some pd → p[n]? = some a → Dp K H (.ref a) pd) : ∀ {d : D} {v : V} {pd : PyData}, RD K p H d v → toPyW f d = some pd → Dp K H v pd
  | .non, v, pd, r, h => by cases h; cases r; exact .non
  | .bl b, v, pd, r, h => by cases h; cases r; exact .bl b
  | .int i, v, pd, r, h => by cases h; cases r; exact .int i
  | .str x, v, pd, r, h => by cases h; cases r; exact .str x
  | .raw u, v, pd, r, h => by cases h
  | .rl ns, v, pd, r, h => by
    obtain ⟨a, rfl, e⟩ := r
    cases h
    refine .lst e.sq ?_
    clear e
    induction ns with
    | nil => exact .nil
    | cons n ns ih => exact .cons (.int n) ih
  | .ref n, v, pd, r, h => by
    obtain ⟨a, e, rfl⟩ := r
    exact hf n pd a h e
  | .tup ds, v, pd, r, h => by
    obtain ⟨a, vs, rfl, e, rs⟩ := r
    unfold toPyW at h
    cases hq : toPysW f ds with
    | none => rw [hq] at h; cases h
    | some pds =>
      rw [hq] at h
      cases h
      exact .tup e (toPysW_read hf rs hq)
  | .ptp ds, v, pd, r, h => by
    obtain ⟨a, vs, ob, rfl, e, _, rs⟩ := r
    unfold toPyW at h
    cases hq : toPysW f ds with
    | none => rw [hq] at h; cases h
    | some pds =>
      rw [hq] at h
      cases h
      exact .tup (.inl (.inr ⟨ob, e⟩)) (toPysW_read hf rs hq)
theorem toPysW_read {K : KX} {p : List Addr} {H : Hp} {f : Nat → Option PyData} (hf : ∀ n pd a, f n = some pd → p[n]? = some a → Dp K H (.ref a) pd) : ∀ {ds : List D} {vs : List V} {pds : List PyData}, RDs K p H ds vs → toPysW f ds = some pds → DpAll K H vs pds
  | [], vs, pds, r, h => by cases h; cases r; exact .nil
  | d :: ds, vs, pds, r, h => by
    obtain ⟨v, us, rfl, r1, r2⟩ := r
    unfold toPysW at h
    cases h1 : toPyW f d with
    | none => rw [h1] at h; cases h
    | some x =>
      rw [h1] at h
      cases h2 : toPysW f ds with
      | none => rw [h2] at h; cases h
      | some xs =>
        rw [h2] at h
        cases h
        exact .cons (toPyW_read hf r1 h1) (toPysW_read hf r2 h2)
end
theorem listPy_read {K : KX} {p : List Addr} {S : Sto} {H : Hp} (hs : RS K p S H) {f : Nat → Option PyData} (hf : ∀ n pd a, f n = some pd → p[n]? = some a → Dp K H (.ref a) pd) (n : Nat) (pd : PyData) (a : Addr) (h : listPy f S n = some pd) (ea : p[n]? = some a) : Dp K H (.ref a) pd := by
  unfold listPy at h
  split at h
  · rename_i ds hd
    obtain ⟨x, ex, vs, rfl, rs⟩ := hs.get n a _ ea hd
    cases hq : toPysW f ds with
    | none => rw [hq] at h; cases h
    | some pds =>
      rw [hq] at h
      cases h
      exact .lst (.of ex) (toPysW_read hf rs hq)
  · cases h
theorem toPy_read {K : KX} {p : List Addr} {S : Sto} {H : Hp} {d : D} {v : V} {pd : PyData} (hs : RS K p S H) (r : RD K p H d v) (h : toPy S d = some pd) : Dp K H v pd :=
  toPyW_read (fun n pd a h e => listPy_read hs (fun _ _ _ z => by cases z) n pd a h e) r h
/-- == of two flat data of one sort -/
def flatEq : D → D → Option Bool
  | .int i, .int j => some (decide (i = j))
  | .str a, .str b => some (decide (a = b))
  | .bl a, .bl b => some (decide (a = b))
  | .non, .non => some true
  | _, _ => none
def eqD (S : Sto) (x y : D) : Option Bool := match flatEq x y with
  | some b => some b
  | none => match toPy S x, toPy S y with
    | some a, some b => if SeqAt.shaped a && SeqAt.shaped b then some (PyData.eqv a b) else none
    | _, _ => none
def opEq (x y : D) (S : Sto) : Rs D := match eqD S x y with
  | some b => .ok (.bl b) S
  | none => .bad
def opNe (x y : D) (S : Sto) : Rs D := match eqD S x y with
  | some b => .ok (.bl (!b)) S
  | none => .bad
theorem flatEq_read {K : KX} {p : List Addr} {H : Hp} {x y : D} {v u : V} {b : Bool} (rx : RD K p H x v) (ry : RD K p H y u) (h : flatEq x y = some b) : scal v u = true ∧ decide (v = u) = b := by
  cases x <;> cases y <;> first
    | (cases h; done)
    | (cases h; cases rx; cases ry; exact ⟨rfl, by simp⟩)
theorem eqD_read {K : KX} {p : List Addr} {S : Sto} {H : Hp} {x y : D} {v u : V} {b : Bool} (hs : RS K p S H) (rx : RD K p H x v) (ry : RD K p H y u) (h : eqD S x y = some b) :
    (scal v u = true ∧ decide (v = u) = b) ∨ ∃ d e, Dp K H v d ∧ Dp K H u e ∧ SeqAt.shaped d = true ∧ SeqAt.shaped e = true ∧ PyData.eqv d e = b := by
  unfold eqD at h
  split at h
  · rename_i c hc
    cases h
    exact .inl (flatEq_read rx ry hc)
  · split at h
    · rename_i a b' h1 h2
      split at h
      · rename_i hsh
        rw [Bool.and_eq_true] at hsh
        cases h
        exact .inr ⟨a, b', toPy_read hs rx h1, toPy_read hs ry h2, hsh.1, hsh.2, rfl⟩
      · cases h
    · cases h
theorem pr_eq : Prim2 (gX X) W (fun x y H Q => rEq x y H Q ∨ rEqD X.K x y H Q) opEq := by
  intro p S H x y v u Q hs rx ry q
  unfold opEq at q
  split at q
  · rename_i b hb
    have q' := post_ok q hs
    rcases eqD_read hs rx ry hb with ⟨h1, h2⟩ | ⟨d, e, h1, h2, h3, h4, h5⟩
    · exact .inl ⟨h1, by rw [h2]; exact q' _ rfl⟩
    · exact .inr ⟨d, e, h1, h2, h3, h4, by rw [h5]; exact q' _ rfl⟩
  · exact q.elim
theorem pr_ne : Prim2 (gX X) W (fun x y H Q => rNe x y H Q ∨ rNeD X.K x y H Q) opNe := by
  intro p S H x y v u Q hs rx ry q
  unfold opNe at q
  split at q
  · rename_i b hb
    have q' := post_ok q hs
    rcases eqD_read hs rx ry hb with ⟨h1, h2⟩ | ⟨d, e, h1, h2, h3, h4, h5⟩
    · exact .inl ⟨h1, by rw [h2]; exact q' _ rfl⟩
    · exact .inr ⟨d, e, h1, h2, h3, h4, by rw [h5]; exact q' _ rfl⟩
  · exact q.elim
theorem or_eq (hu : X.A.units + 64 < cLine) : OpR X (compareOp .Eq) (fun x y H Q => rEq x y H Q ∨ rEqD X.K x y H Q) := op_eq.or (op_eqD hu)
theorem or_ne (hu : X.A.units + 64 < cLine) : OpR X (compareOp .NotEq) (fun x y H Q => rNe x y H Q ∨ rNeD X.K x y H Q) := op_ne.or (op_neD hu)

/-! ### in, not in -/
def flatD : D → Bool
  | .non => true
  | .bl _ => true
  | .int _ => true
  | .str _ => true
  | _ => false
def eqF : D → D → Bool
  | .non, .non => true
  | .bl a, .bl b => a == b
  | .bl a, .int b => (if a then 1 else 0) == b
  | .int a, .bl b => a == (if b then 1 else 0)
  | .int a, .int b => a == b
  | .str a, .str b => a == b
  | _, _ => false
def inF (x : D) (ds : List D) : Option Bool := if flatD x && ds.all flatD then some (ds.any fun y => eqF y x) else none
def inD (S : Sto) (x y : D) : Option Bool := match y with
  | .tup ds => inF x ds
  | .rl ns => inF x (ns.map .int)
  | .ref n => match S[n]? with
    | some (.lst ds) => inF x ds
    | some (.dk kvs) => (toKey x).map fun k => (getK kvs k).isSome
    | some (.fd kvs) => (toKey x).map fun k => (getK kvs k).isSome
    | _ => none
  | _ => none
def opIn (x y : D) (S : Sto) : Rs D := match inD S x y with
  | some b => .ok (.bl b) S
  | none => .bad
def opNotIn (x y : D) (S : Sto) : Rs D := match inD S x y with
  | some b => .ok (.bl (!b)) S
  | none => .bad
theorem eqF_read {K : KX} {p : List Addr} {H : Hp} {x y : D} {v u : V} (rx : RD K p H x v) (ry : RD K p H y u) (fx : flatD x = true) (fy : flatD y = true) : flatV v = true ∧ flatV u = true ∧ eqV v u = eqF x y := by
  cases x <;> cases y <;> first
    | (cases fx; done)
    | (cases fy; done)
    | (cases rx; cases ry; exact ⟨rfl, rfl, rfl⟩)
theorem flat_read {K : KX} {p : List Addr} {H : Hp} {x : D} {v : V} (rx : RD K p H x v) (fx : flatD x = true) : flatV v = true := by
  cases x <;> first
    | (cases fx; done)
    | (cases rx; rfl)
theorem inF_read {K : KX} {p : List Addr} {H : Hp} {x : D} {v : V} {b : Bool} (rx : RD K p H x v) : ∀ {ds : List D} {vs : List V}, RDs K p H ds vs → inF x ds = some b → flatV v = true ∧ vs.all flatV = true ∧ inV v vs = b := by
  intro ds vs rs h
  unfold inF at h
  split at h
  · rename_i hf
    rw [Bool.and_eq_true] at hf
    cases h
    refine ⟨flat_read rx hf.1, ?_⟩
    obtain ⟨fx, hall⟩ := hf
    induction ds generalizing vs with
    | nil => cases rs; exact ⟨rfl, rfl⟩
    | cons d ds ih =>
      obtain ⟨w, us, rfl, r1, r2⟩ := rs
      rw [List.all_cons, Bool.and_eq_true] at hall
      obtain ⟨i1, i2⟩ := ih r2 hall.2
      obtain ⟨f1, f2, f3⟩ := eqF_read r1 rx hall.1 fx
      refine ⟨by rw [List.all_cons, f1, i1]; rfl, ?_⟩
      unfold inV at i2 ⊢
      rw [List.any_cons, List.any_cons, f3, i2]
  · cases h
/-- a dict of the store, open or locked -/
theorem dk_at {K : KX} {p : List Addr} {S : Sto} {H : Hp} {n : Nat} {a : Addr} {kvs : List (Key × D)} (hs : RS K p S H) (ea : p[n]? = some a) (h : S[n]? = some (.dk kvs) ∨ S[n]? = some (.fd kvs)) : ∃ ws, Rd H a (.dK ws) ∧ RKs K p H kvs ws := by
  rcases h with h | h
  · obtain ⟨x, ex, ws, rfl, rk⟩ := hs.get n a _ ea h
    exact ⟨ws, .inl ex, rk⟩
  · obtain ⟨x, ex, ob, ws, rfl, rk⟩ := hs.get n a _ ea h
    exact ⟨ws, .inr ⟨ob, ex⟩, rk⟩
theorem dget_at {K : KX} {p : List Addr} {S : Sto} {H : Hp} {n : Nat} {a : Addr} {kvs : List (Key × D)} {d : D} {v : V} {k : Key} (hs : RS K p S H) (ea : p[n]? = some a) (h : S[n]? = some (.dk kvs) ∨ S[n]? = some (.fd kvs)) (r : RD K p H d v) (hk : toKey d = some k) :
    ∃ ws, DGet H a v (valV ws k) ∧ RKs K p H kvs ws := by
  obtain ⟨ws, rd, rk⟩ := dk_at hs ea h
  exact ⟨ws, .inl ⟨ws, k, rd, toKey_read r hk, rfl⟩, rk⟩
theorem val_isSome {K : KX} {p : List Addr} {H : Hp} {kvs : List (Key × D)} {ws : List (Key × V)} {k : Key} (rk : RKs K p H kvs ws) : (valV ws k).isSome = (getK kvs k).isSome := by
  obtain ⟨h1, h2⟩ := rk.val (k := k)
  cases hq : getK kvs k with
  | none => rw [h2 hq]; rfl
  | some d => obtain ⟨v, e, _⟩ := h1 d hq; rw [e]; rfl
def rDIn (neg : Bool) : R2 := fun y x H Q => ∃ a o, x = .ref a ∧ DGet H a y o ∧ Q (.bl (if neg then !o.isSome else o.isSome)) H
theorem op_in_dict (hu : X.A.units + 1 < cLine) : OpR X (compareOp .In) (rDIn false) := by
  intro pins s σ H y x u v Q I ry rx h
  obtain ⟨a, o, rfl, g, q⟩ := h
  obtain rfl : v = Value.ref a := rx
  exact d_in hu I g ry fun s3 I3 => ⟨.bl o.isSome, H, I3, rfl, q⟩
theorem op_notin_dict (hu : X.A.units + 1 < cLine) : OpR X (compareOp .NotIn) (rDIn true) := by
  intro pins s σ H y x u v Q I ry rx h
  obtain ⟨a, o, rfl, g, q⟩ := h
  obtain rfl : v = Value.ref a := rx
  exact d_notIn hu I g ry fun s3 I3 => ⟨.bl (!o.isSome), H, I3, rfl, q⟩
theorem rds_ints {K : KX} {p : List Addr} {H : Hp} : ∀ ns : List Int, RDs K p H (ns.map .int) (ns.map V.int)
  | [] => rfl
  | n :: ns => ⟨_, _, rfl, rfl, rds_ints ns⟩
theorem inD_read {p : List Addr} {S : Sto} {H : Hp} {x y : D} {v u : V} {b : Bool} (neg : Bool) {Q : VK} (hs : RS (gX X) p S H) (rx : RD (gX X) p H x v) (ry : RD (gX X) p H y u) (h : inD S x y = some b) (q : Q (.bl (if neg then !b else b)) H) : rIn X.K neg v u H Q ∨ rDIn neg v u H Q := by
  unfold inD at h
  cases y with
  | tup ds =>
    obtain ⟨a, vs, rfl, e, rs⟩ := ry
    obtain ⟨h1, h2, h3⟩ := inF_read rx rs h
    exact .inl ⟨a, vs, rfl, .inr e, h1, h2, by rw [h3]; exact q⟩
  | rl ns =>
    obtain ⟨a, rfl, e⟩ := ry
    obtain ⟨h1, h2, h3⟩ := inF_read rx (rds_ints ns) h
    exact .inl ⟨a, _, rfl, .inl e.sq, h1, h2, by rw [h3]; exact q⟩
  | ref n =>
    obtain ⟨a, ea, rfl⟩ := ry
    simp only at h
    split at h
    · rename_i ds hd
      obtain ⟨vs, ex, rs⟩ := lst_at hs ea hd
      obtain ⟨h1, h2, h3⟩ := inF_read rx rs h
      exact .inl ⟨a, vs, rfl, .inl (.of ex), h1, h2, by rw [h3]; exact q⟩
    · rename_i kvs hd
      cases hk : toKey x with
      | none => rw [hk] at h; cases h
      | some k =>
        rw [hk] at h
        cases h
        obtain ⟨ws, g, rk⟩ := dget_at hs ea (.inl hd) rx hk
        exact .inr ⟨a, _, rfl, g, by rw [val_isSome rk]; exact q⟩
    · rename_i kvs hd
      cases hk : toKey x with
      | none => rw [hk] at h; cases h
      | some k =>
        rw [hk] at h
        cases h
        obtain ⟨ws, g, rk⟩ := dget_at hs ea (.inr hd) rx hk
        exact .inr ⟨a, _, rfl, g, by rw [val_isSome rk]; exact q⟩
    · cases h
  | _ => cases h
theorem pr_in : Prim2 (gX X) W (fun x y H Q => rIn X.K false x y H Q ∨ rDIn false x y H Q) opIn := by
  intro p S H x y v u Q hs rx ry q
  unfold opIn at q
  split at q
  · rename_i b hb
    exact inD_read false hs rx ry hb (post_ok q hs _ rfl)
  · exact q.elim
theorem pr_notin : Prim2 (gX X) W (fun x y H Q => rIn X.K true x y H Q ∨ rDIn true x y H Q) opNotIn := by
  intro p S H x y v u Q hs rx ry q
  unfold opNotIn at q
  split at q
  · rename_i b hb
    exact inD_read true hs rx ry hb (post_ok q hs _ rfl)
  · exact q.elim
theorem or_in (hu : X.A.units + 1 < cLine) : OpR X (compareOp .In) (fun x y H Q => rIn X.K false x y H Q ∨ rDIn false x y H Q) := op_in_seq.or (op_in_dict hu)
theorem or_notin (hu : X.A.units + 1 < cLine) : OpR X (compareOp .NotIn) (fun x y H Q => rIn X.K true x y H Q ∨ rDIn true x y H Q) := op_notIn_seq.or (op_notin_dict hu)
/-- is None -/
def opIsN (neg : Bool) (x y : D) (S : Sto) : Rs D := match y with
  | .non => match x with
    | .non => .ok (.bl (!neg)) S
    | .raw _ => .bad
    | _ => .ok (.bl neg) S
  | _ => .bad
theorem isN_read {K : KX} {p : List Addr} {H : Hp} {x : D} {v : V} (r : RD K p H x v) (hx : ∀ u, x ≠ .raw u) : (v = V.non ↔ x = .non) := by
  cases x with
  | non => cases r; simp
  | raw u => exact absurd rfl (hx u)
  | tup ds => obtain ⟨a, vs, rfl, _⟩ := r; simp
  | ptp ds => obtain ⟨a, vs, ob, rfl, _⟩ := r; simp
  | ref n => obtain ⟨a, _, rfl⟩ := r; simp
  | rl ns => obtain ⟨a, rfl, _⟩ := r; simp
  | _ => cases r; simp
theorem pr_isN {K : KX} : Prim2 K W (fun x y H Q => y = .non ∧ Q (.bl (decide (x = .non))) H) (opIsN false) := by
  intro p S H x y v u Q hs rx ry q
  unfold opIsN at q
  cases y <;> try exact q.elim
  refine ⟨ry, ?_⟩
  cases x with
  | raw u => exact q.elim
  | non => cases rx; exact post_ok q hs _ rfl
  | _ => rw [decide_eq_false (fun z => by have := (isN_read rx (by simp)).mp z; cases this)]; exact post_ok q hs _ rfl
theorem pr_notN {K : KX} : Prim2 K W (fun x y H Q => y = .non ∧ Q (.bl (!decide (x = .non))) H) (opIsN true) := by
  intro p S H x y v u Q hs rx ry q
  unfold opIsN at q
  cases y <;> try exact q.elim
  refine ⟨ry, ?_⟩
  cases x with
  | raw u => exact q.elim
  | non => cases rx; exact post_ok q hs _ rfl
  | _ => rw [decide_eq_false (fun z => by have := (isN_read rx (by simp)).mp z; cases this)]; exact post_ok q hs _ rfl

/-! ### subscripts -/
def opIx (x i : D) (S : Sto) : Rs D := match x with
  | .tup ds => match i with
    | .int i => match atI ds i with
      | some d => .ok d S
      | none => .bad
    | _ => .bad
  | .str z => match i with
    | .int i => if z.length ≤ sizeLine then (match atI z.cps.toList i with
      | some c => .ok (.str ⟨#[c]⟩) S
      | none => .bad) else .bad
    | _ => .bad
  | .ref n => match S[n]? with
    | some (.lst ds) => match i with
      | .int i => match atI ds i with
        | some d => .ok d S
        | none => .bad
      | _ => .bad
    | some (.dk kvs) => match (toKey i).bind (getK kvs) with
      | some d => .ok d S
      | none => .bad
    | some (.fd kvs) => match (toKey i).bind (getK kvs) with
      | some d => .ok d S
      | none => .bad
    | _ => .bad
  | .rl ns => match i with
    | .int i => match atI ns i with
      | some d => .ok (.int d) S
      | none => .bad
    | _ => .bad
  | _ => .bad
def rDIx : R2 := fun x y H Q => ∃ a v, x = .ref a ∧ DGet H a y (some v) ∧ Q v H
theorem ix_dict (hu : X.A.units + 1 < cLine) : IxR X rDIx := by
  intro value slice pins s σ H x y v u Q I rx ry h hs
  obtain ⟨a, w, rfl, g, q⟩ := h
  obtain rfl : v = Value.ref a := rx
  exact PyProof.Rows.tail_any (dict_typeIs I g) PySem.F.slot_dict_getitem.lookup (d_getItem hu I g ry fun w' s3 I3 rw' => ⟨w, H, I3, rw', q⟩) hs
theorem or_ix (hu : X.A.units + 1 < cLine) : IxR X (fun x y H Q => rIx X.K x y H Q ∨ rDIx x y H Q) := ix_seq.or (ix_dict hu)
theorem atI_read {K : KX} {p : List Addr} {H : Hp} {ds : List D} {vs : List V} {i : Int} {d : D} (r : RDs K p H ds vs) (h : atI ds i = some d) : ∃ v, atI vs i = some v ∧ RD K p H d v := by
  unfold atI at h ⊢
  rw [r.length] at h
  cases hq : ixN vs.length i with
  | none => rw [hq] at h; cases h
  | some j =>
    rw [hq] at h
    exact r.get h
theorem pr_ix : Prim2 (gX X) W (fun x y H Q => rIx X.K x y H Q ∨ rDIx x y H Q) opIx := by
  intro p S H x y v u Q hs rx ry q
  unfold opIx at q
  cases x with
  | tup ds =>
    obtain ⟨a, vs, rfl, e, rs⟩ := rx
    cases y <;> try exact q.elim
    simp only at q
    split at q
    · rename_i d hd
      obtain ⟨w, hw, rw'⟩ := atI_read rs hd
      exact .inl (.inr (.inl ⟨a, vs, _, w, rfl, ry, e, hw, post_ok q hs _ rw'⟩))
    · exact q.elim
  | str z =>
    cases y <;> try exact q.elim
    simp only at q
    split at q
    · rename_i hz
      split at q
      · rename_i c hc
        exact .inl (.inr (.inr ⟨z, _, c, rx, ry, hz, hc, post_ok q hs _ rfl⟩))
      · exact q.elim
    · exact q.elim
  | ref n =>
    obtain ⟨a, ea, rfl⟩ := rx
    simp only at q
    split at q
    · rename_i ds hd
      obtain ⟨vs, ex, rs⟩ := lst_at hs ea hd
      cases y <;> try exact q.elim
      simp only at q
      split at q
      · rename_i d hd
        obtain ⟨w, hw, rw'⟩ := atI_read rs hd
        exact .inl (.inl ⟨a, vs, _, w, rfl, ry, .of ex, hw, post_ok q hs _ rw'⟩)
      · exact q.elim
    · rename_i kvs hd
      split at q
      · rename_i d hg
        obtain ⟨k, hk, hv⟩ := Option.bind_eq_some_iff.mp hg
        obtain ⟨ws, g, rk⟩ := dget_at hs ea (.inl hd) ry hk
        obtain ⟨w, hw, rw'⟩ := (rk.val (k := k)).1 d hv
        rw [hw] at g
        exact .inr ⟨a, w, rfl, g, post_ok q hs _ rw'⟩
      · exact q.elim
    · rename_i kvs hd
      split at q
      · rename_i d hg
        obtain ⟨k, hk, hv⟩ := Option.bind_eq_some_iff.mp hg
        obtain ⟨ws, g, rk⟩ := dget_at hs ea (.inr hd) ry hk
        obtain ⟨w, hw, rw'⟩ := (rk.val (k := k)).1 d hv
        rw [hw] at g
        exact .inr ⟨a, w, rfl, g, post_ok q hs _ rw'⟩
      · exact q.elim
    · exact q.elim
  | rl ns =>
    obtain ⟨a, rfl, e⟩ := rx
    cases y <;> try exact q.elim
    rename_i iy
    simp only at q
    split at q
    · rename_i d hd
      have hd' : atI (ns.map D.int) iy = some (.int d) := by
        unfold atI at hd ⊢
        rw [List.length_map]
        cases hq : ixN ns.length iy with
        | none => rw [hq] at hd; cases hd
        | some j => rw [hq] at hd; simpa using hd
      obtain ⟨w, hw, rw'⟩ := atI_read (rds_ints ns) hd'
      exact .inl (.inl ⟨a, _, _, w, rfl, ry, e.sq, hw, post_ok q hs _ rw'⟩)
    · exact q.elim
  | _ => exact q.elim
end
end M

namespace M
open PySem L2
section
variable {X : Cx} {W : XW}
/-! ### len, int, max, min, sum, tuple -/
def fLen (ds : List D) (S : Sto) : Rs D := match ds with
  | [d] => match d with
    | .tup xs => .ok (.int xs.length) S
    | .rl ns => .ok (.int ns.length) S
    | .str z => if z.length ≤ sizeLine then .ok (.int z.length) S else .bad
    | .ref n => match S[n]? with
      | some (.lst xs) => .ok (.int xs.length) S
      | some (.dk kvs) => .ok (.int kvs.length) S
      | some (.fd kvs) => .ok (.int kvs.length) S
      | _ => .bad
    | _ => .bad
  | _ => .bad
def rLen (K : PySem.W.Frag) : List V → Hp → VK → Prop := fun xs H Q => (∃ p ys, xs = [.ref p] ∧ (SqL K H p ys ∨ SqT K H p ys) ∧ Q (.int ys.length) H) ∨ (∃ z, xs = [.str z] ∧ z.length ≤ sizeLine ∧ Q (.int z.length) H) ∨ (∃ a kvs, xs = [V.ref a] ∧ Rd H a (.dK kvs) ∧ Q (.int kvs.length) H)
theorem call_lenR : CallR X (.builtin "len") (fun xs H Q => ∃ a kvs, xs = [V.ref a] ∧ Rd H a (.dK kvs) ∧ Q (.int kvs.length) H) := by
  intro pins s σ H xs us Q I r h
  obtain ⟨a, kvs, rfl, ha, q⟩ := h
  obtain ⟨u, rfl, ru⟩ := vals1 r
  cases ru
  exact d_len I ha fun t s' I' => ⟨.int kvs.length, H, I', ⟨t, rfl⟩, q⟩
theorem cr_len : CallR X (.builtin "len") (rLen X.K) := call_len_seq.or (call_len_str.or call_lenR)
theorem one_of {K : KX} {p : List Addr} {H : Hp} {d : D} {vs : List V} (r : RDs K p H [d] vs) : ∃ v, vs = [v] ∧ RD K p H d v := by
  obtain ⟨v, us, rfl, h1, h2⟩ := r
  cases h2
  exact ⟨v, rfl, h1⟩
theorem two_of {K : KX} {p : List Addr} {H : Hp} {d e : D} {vs : List V} (r : RDs K p H [d, e] vs) : ∃ v u, vs = [v, u] ∧ RD K p H d v ∧ RD K p H e u := by
  obtain ⟨v, us, rfl, h1, h2⟩ := r
  obtain ⟨u, rfl, h3⟩ := one_of h2
  exact ⟨v, u, rfl, h1, h3⟩
theorem pr_len : PrimN (gX X) W (rLen X.K) fLen := by
  intro p S H xs vs Q hs r q
  unfold fLen at q
  split at q
  · rename_i d
    obtain ⟨v, rfl, rv⟩ := one_of r
    split at q
    · obtain ⟨a, us, rfl, e, rs⟩ := rv
      exact .inl ⟨a, us, rfl, .inr e, by rw [← rs.length]; exact post_ok q hs _ rfl⟩
    · obtain ⟨a, rfl, e⟩ := rv
      exact .inl ⟨a, _, rfl, .inl e.sq, by rw [List.length_map]; exact post_ok q hs _ rfl⟩
    · rename_i z
      split at q
      · rename_i hz
        obtain rfl : v = V.str z := rv
        exact .inr (.inl ⟨z, rfl, hz, post_ok q hs _ rfl⟩)
      · exact q.elim
    · obtain ⟨a, ea, rfl⟩ := rv
      split at q
      · rename_i ds hd
        obtain ⟨us, ex, rs⟩ := lst_at hs ea hd
        exact .inl ⟨a, us, rfl, .inl (.of ex), by rw [← rs.length]; exact post_ok q hs _ rfl⟩
      · rename_i kvs hd
        obtain ⟨ws, ex, rk⟩ := dk_at hs ea (.inl hd)
        exact .inr (.inr ⟨a, ws, rfl, ex, by rw [← rk.length]; exact post_ok q hs _ rfl⟩)
      · rename_i kvs hd
        obtain ⟨ws, ex, rk⟩ := dk_at hs ea (.inr hd)
        exact .inr (.inr ⟨a, ws, rfl, ex, by rw [← rk.length]; exact post_ok q hs _ rfl⟩)
      · exact q.elim
    · exact q.elim
  · exact q.elim
def fLenTL (ds : List D) (S : Sto) : Rs D := .ok (.int ds.length) S
theorem pr_lenTL : PrimTL (gX X) W (rLen X.K) fLenTL := by
  intro p S H ds vs a Q hs r ha hz q
  exact .inl ⟨a, vs, rfl, .inl (.of upd_same), by rw [← r.length]; exact q p _ (Ext.new ha) (hs.frame ha) _ rfl⟩
def fInt (ds : List D) (S : Sto) : Rs D := match ds with
  | [.int i] => .ok (.int i) S
  | [.bl b] => .ok (.int (if b then 1 else 0)) S
  | _ => .bad
theorem pr_int1 {K : KX} : PrimN K W (fun xs H Q => (∃ i, xs = [.int i] ∧ Q (.int i) H) ∨ ∃ k, xs = [.bl k] ∧ Q (.int (if k then 1 else 0)) H) fInt := by
  intro p S H xs vs Q hs r q
  unfold fInt at q
  split at q
  · obtain ⟨v, rfl, rv⟩ := one_of r
    obtain rfl := rv
    exact .inl ⟨_, rfl, post_ok q hs _ rfl⟩
  · obtain ⟨v, rfl, rv⟩ := one_of r
    obtain rfl := rv
    exact .inr ⟨_, rfl, post_ok q hs _ rfl⟩
  · exact q.elim
def fMax2 (ds : List D) (S : Sto) : Rs D := match ds with
  | [.int i, .int j] => .ok (.int (if j > i then j else i)) S
  | _ => .bad
def fMin2 (ds : List D) (S : Sto) : Rs D := match ds with
  | [.int i, .int j] => .ok (.int (if j < i then j else i)) S
  | _ => .bad
theorem pr_max2 {K : KX} : PrimN K W (fun xs H Q => ∃ i j, xs = [.int i, .int j] ∧ Q (.int (if j > i then j else i)) H) fMax2 := by
  intro p S H xs vs Q hs r q
  unfold fMax2 at q
  split at q
  · obtain ⟨v, u, rfl, rv, ru⟩ := two_of r
    obtain rfl := rv
    obtain rfl := ru
    exact ⟨_, _, rfl, post_ok q hs _ rfl⟩
  · exact q.elim
theorem pr_min2 {K : KX} : PrimN K W (fun xs H Q => ∃ i j, xs = [.int i, .int j] ∧ Q (.int (if j < i then j else i)) H) fMin2 := by
  intro p S H xs vs Q hs r q
  unfold fMin2 at q
  split at q
  · obtain ⟨v, u, rfl, rv, ru⟩ := two_of r
    obtain rfl := rv
    obtain rfl := ru
    exact ⟨_, _, rfl, post_ok q hs _ rfl⟩
  · exact q.elim
/-- the ints of a list of data -/
def toInts : List D → Option (List Int)
  | [] => some []
  | .int i :: r => (toInts r).map (i :: ·)
  | _ :: _ => none
theorem toInts_map : ∀ ns : List Int, toInts (ns.map .int) = some ns
  | [] => rfl
  | n :: ns => by rw [List.map_cons, toInts, toInts_map ns]; rfl
theorem toInts_eq : ∀ {ds : List D} {ns : List Int}, toInts ds = some ns → ds = ns.map .int
  | [], ns, h => by cases h; rfl
  | d :: r, ns, h => by
    cases d with
    | int i =>
      rw [toInts] at h
      cases hq : toInts r with
      | none => rw [hq] at h; cases h
      | some ms =>
        rw [hq] at h
        cases h
        rw [List.map_cons, toInts_eq hq]
    | _ => cases h
theorem ints_read {K : KX} {p : List Addr} {H : Hp} : ∀ {ns : List Int} {vs : List V}, RDs K p H (ns.map .int) vs → vs = ns.map V.int
  | [], vs, h => h
  | n :: ns, vs, h => by
    obtain ⟨v, us, rfl, h1, h2⟩ := h
    rw [List.map_cons, ints_read h2]
    obtain rfl : v = V.int n := h1
    rfl
def fSum (ds : List D) (S : Sto) : Rs D := match toInts ds with
  | some ns => .ok (.int ns.sum) S
  | none => .bad
def fMin (ds : List D) (S : Sto) : Rs D := match toInts ds with
  | some (n :: ns) => .ok (.int (ns.foldl min n)) S
  | _ => .bad
def fMax (ds : List D) (S : Sto) : Rs D := match toInts ds with
  | some (n :: ns) => .ok (.int (ns.foldl max n)) S
  | _ => .bad
theorem foldl_min_spec : ∀ (ns : List Int) (n : Int), (∀ y ∈ n :: ns, ns.foldl min n ≤ y) ∧ ns.foldl min n ∈ n :: ns
  | [], n => by simp
  | m :: ns, n => by
    obtain ⟨h1, h2⟩ := foldl_min_spec ns (min n m)
    rw [List.foldl_cons]
    refine ⟨fun y hy => ?_, ?_⟩
    · have h3 := h1 (min n m) (List.mem_cons_self ..)
      rcases List.mem_cons.mp hy with rfl | hy
      · omega
      · rcases List.mem_cons.mp hy with rfl | hy
        · omega
        · exact h1 y (List.mem_cons_of_mem _ hy)
    · rcases List.mem_cons.mp h2 with e | e
      · rw [e]
        rcases Int.le_total n m with h | h
        · rw [Int.min_eq_left h]; simp
        · rw [Int.min_eq_right h]; simp
      · exact List.mem_cons_of_mem _ (List.mem_cons_of_mem _ e)
theorem foldl_max_spec : ∀ (ns : List Int) (n : Int), (∀ y ∈ n :: ns, y ≤ ns.foldl max n) ∧ ns.foldl max n ∈ n :: ns
  | [], n => by simp
  | m :: ns, n => by
    obtain ⟨h1, h2⟩ := foldl_max_spec ns (max n m)
    rw [List.foldl_cons]
    refine ⟨fun y hy => ?_, ?_⟩
    · have h3 := h1 (max n m) (List.mem_cons_self ..)
      rcases List.mem_cons.mp hy with rfl | hy
      · omega
      · rcases List.mem_cons.mp hy with rfl | hy
        · omega
        · exact h1 y (List.mem_cons_of_mem _ hy)
    · rcases List.mem_cons.mp h2 with e | e
      · rw [e]
        rcases Int.le_total n m with h | h
        · rw [Int.max_eq_right h]; simp
        · rw [Int.max_eq_left h]; simp
      · exact List.mem_cons_of_mem _ (List.mem_cons_of_mem _ e)
theorem pr_sumTL : PrimTL (gX X) W (rSum X.K) fSum := by
  intro p S H ds vs a Q hs r ha hz q
  unfold fSum at q
  split at q
  · rename_i ns hn
    rw [toInts_eq hn] at r
    rw [ints_read r]
    exact ⟨a, ns, rfl, .of upd_same, q p _ (Ext.new ha) (hs.frame ha) _ rfl⟩
  · exact q.elim
theorem pr_minTL : PrimTL (gX X) W (rMin X.K) fMin := by
  intro p S H ds vs a Q hs r ha hz q
  unfold fMin at q
  split at q
  · rename_i n ns hn
    rw [toInts_eq hn] at r
    rw [ints_read r]
    refine ⟨a, n :: ns, rfl, .of upd_same, by simp, fun m hm hall => ?_⟩
    obtain ⟨h1, h2⟩ := foldl_min_spec ns n
    have e : m = ns.foldl min n := Int.le_antisymm (hall _ h2) (h1 m hm)
    rw [e]
    exact q p _ (Ext.new ha) (hs.frame ha) _ rfl
  · exact q.elim
theorem pr_maxTL : PrimTL (gX X) W (rMax X.K) fMax := by
  intro p S H ds vs a Q hs r ha hz q
  unfold fMax at q
  split at q
  · rename_i n ns hn
    rw [toInts_eq hn] at r
    rw [ints_read r]
    refine ⟨a, n :: ns, rfl, .of upd_same, by simp, fun m hm hall => ?_⟩
    obtain ⟨h1, h2⟩ := foldl_max_spec ns n
    have e : m = ns.foldl max n := Int.le_antisymm (h1 m hm) (hall _ h2)
    rw [e]
    exact q p _ (Ext.new ha) (hs.frame ha) _ rfl
  · exact q.elim
/-- tuple(a fresh list) -/
def fTupTL (ds : List D) (S : Sto) : Rs D := .ok (.tup ds) S
theorem pr_tupTL : PrimTL (gX X) W (fun xs H Q => ∃ p ys, xs = [.ref p] ∧ ((SqL X.K H p ys ∧ ∀ l, H l = none → Q (.ref l) (upd H l (.tup ys))) ∨ (SqT X.K H p ys ∧ Q (.ref p) H))) fTupTL := by
  intro p S H ds vs a Q hs r ha hz q
  refine ⟨a, vs, rfl, .inl ⟨.of upd_same, fun l hl => ?_⟩⟩
  have x1 : Ext (gX X) p H p (upd H a (.lst vs)) := Ext.new ha
  exact new_tup (hs.frame ha) (r.mono x1.pre x1.tup) (post_base x1 q) hl
/-- tuple(x) of a list or tuple -/
def fTup (ds : List D) (S : Sto) : Rs D := match ds with
  | [.tup xs] => .ok (.tup xs) S
  | [.rl ns] => .ok (.tup (ns.map .int)) S
  | [.ref n] => match S[n]? with
    | some (.lst xs) => .ok (.tup xs) S
    | _ => .bad
  | _ => .bad
theorem pr_tup : PrimN (gX X) W (fun xs H Q => ∃ p ys, xs = [.ref p] ∧ ((SqL X.K H p ys ∧ ∀ l, H l = none → Q (.ref l) (upd H l (.tup ys))) ∨ (SqT X.K H p ys ∧ Q (.ref p) H))) fTup := by
  intro p S H xs vs Q hs r q
  unfold fTup at q
  split at q
  · obtain ⟨v, rfl, rv⟩ := one_of r
    obtain ⟨a, us, rfl, e, rs⟩ := rv
    exact ⟨a, us, rfl, .inr ⟨e, post_ok q hs _ ⟨a, us, rfl, e, rs⟩⟩⟩
  · obtain ⟨v, rfl, rv⟩ := one_of r
    obtain ⟨a, rfl, e⟩ := rv
    exact ⟨a, _, rfl, .inl ⟨e.sq, fun l hl => new_tup hs (rds_ints _) q hl⟩⟩
  · obtain ⟨v, rfl, rv⟩ := one_of r
    obtain ⟨a, ea, rfl⟩ := rv
    split at q
    · rename_i ds hd
      obtain ⟨us, ex, rs⟩ := lst_at hs ea hd
      exact ⟨a, us, rfl, .inl ⟨.of ex, fun l hl => new_tup hs rs q hl⟩⟩
    · exact q.elim
  · exact q.elim

/-! ### dicts -/
def m3 (f : D → D → D → Sto → Rs D) (ma mb mc : En → Sto → Rs D) : En → Sto → Rs D := fun E S => (ma E S).bind fun x S1 => (mb E S1).bind fun y S2 => (mc E S2).bind fun z S3 => f x y z S3
/-- d.get(k, x) -/
def fGet2 (x y z : D) (S : Sto) : Rs D := match x with
  | .ref n => match S[n]? with
    | some (.dk kvs) => match toKey y with
      | some k => .ok ((getK kvs k).getD z) S
      | none => .bad
    | some (.fd kvs) => match toKey y with
      | some k => .ok ((getK kvs k).getD z) S
      | none => .bad
    | _ => .bad
  | _ => .bad
/-- it is a dict -/
def isDk (S : Sto) (d : D) : Bool := match d with
  | .ref n => match S[n]? with
    | some (.dk _) => true
    | some (.fd _) => true
    | _ => false
  | _ => false
theorem isDk_read {K : KX} {p : List Addr} {S : Sto} {H : Hp} {d : D} {v : V} (hs : RS K p S H) (r : RD K p H d v) (h : isDk S d = true) : ∃ a, v = .ref a ∧ IsD H a := by
  unfold isDk at h
  split at h
  · obtain ⟨a, ea, rfl⟩ := r
    split at h
    · rename_i kvs hd
      obtain ⟨ws, rd, _⟩ := dk_at hs ea (.inl hd)
      exact ⟨a, rfl, .inl ⟨ws, rd⟩⟩
    · rename_i kvs hd
      obtain ⟨ws, rd, _⟩ := dk_at hs ea (.inr hd)
      exact ⟨a, rfl, .inl ⟨ws, rd⟩⟩
    · cases h
  · cases h
def mGet2 (ma mb mc : En → Sto → Rs D) : En → Sto → Rs D := fun E S => (ma E S).bind fun x S1 => if isDk S1 x then (mb E S1).bind fun y S2 => (mc E S2).bind fun z S3 => fGet2 x y z S3 else .bad
theorem getD_read {K : KX} {p : List Addr} {H : Hp} {kvs : List (Key × D)} {ws : List (Key × V)} {k : Key} {z : D} {u : V} (rk : RKs K p H kvs ws) (rz : RD K p H z u) : RD K p H ((getK kvs k).getD z) ((valV ws k).getD u) := by
  obtain ⟨h1, h2⟩ := rk.val (k := k)
  cases hq : getK kvs k with
  | none => rw [h2 hq]; exact rz
  | some d => obtain ⟨v, e, r⟩ := h1 d hq; rw [e]; exact r
theorem me_get2 {o e f : Expr} {apos cpos : Pos} {ma mb mc : En → Sto → Rs D} (hu : X.A.units + 1 < cLine) (ho : ME X W o ma) (he : ME X W e mb) (hf : ME X W f mc) (m : M2 X o "get" apos e f cpos) : ME X W (.Call (.Attribute o "get" apos) [e, f] [] cpos) (mGet2 ma mb mc) :=
  PE.imp (pe_dget2 hu ho he hf m) fun σ H Q q => by
    obtain ⟨p, S, E, hs, he, q⟩ := q
    refine lE_step hs he (post_mono (fun x S1 p1 H1 x1 hs1 q1 v rv => ?_) (post_bind q))
    split at q1
    · rename_i hd
      obtain ⟨a, rfl, hD⟩ := isDk_read hs1 rv hd
      refine ⟨a, rfl, hD, lE_step hs1 (he.mono x1.pre x1.tup) (post_mono (fun y S2 p2 H2 x2 hs2 q2 w rw' => ?_) (post_bind q1))⟩
      refine lE_step hs2 ((he.mono x1.pre x1.tup).mono x2.pre x2.tup) (post_mono (fun z S3 p3 H3 x3 hs3 q3 u ru => ?_) (post_bind q2))
      have rv3 := (rv.mono x2.pre x2.tup).mono x3.pre x3.tup
      have rw3 := rw'.mono x3.pre x3.tup
      unfold fGet2 at q3
      split at q3
      · rename_i n
        obtain ⟨b, eb, e1⟩ := rv3
        cases e1
        split at q3
        · rename_i kvs hk
          split at q3
          · rename_i k hkey
            obtain ⟨ws, g, rk⟩ := dget_at hs3 eb (.inl hk) rw3 hkey
            exact ⟨_, g, post_ok q3 hs3 _ (getD_read rk ru)⟩
          · exact q3.elim
        · rename_i kvs hk
          split at q3
          · rename_i k hkey
            obtain ⟨ws, g, rk⟩ := dget_at hs3 eb (.inr hk) rw3 hkey
            exact ⟨_, g, post_ok q3 hs3 _ (getD_read rk ru)⟩
          · exact q3.elim
        · exact q3.elim
      · exact q3.elim
    · exact q1.elim
/-- d.pop(k) -/
def fPop (x y : D) (S : Sto) : Rs D := match x with
  | .ref n => match S[n]? with
    | some (.dk kvs) => match toKey y with
      | some k => match getK kvs k with
        | some d => .ok d (S.set n (.dk (delK kvs k)))
        | none => .bad
      | none => .bad
    | _ => .bad
  | _ => .bad
def mPop (ma mb : En → Sto → Rs D) : En → Sto → Rs D := fun E S => (ma E S).bind fun x S1 => if isDk S1 x then (mb E S1).bind fun y S2 => fPop x y S2 else .bad
theorem me_pop {o e : Expr} {apos cpos : Pos} {ma mb : En → Sto → Rs D} (ho : ME X W o ma) (he : ME X W e mb) (m : M1 X o "pop" apos e cpos) : ME X W (.Call (.Attribute o "pop" apos) [e] [] cpos) (mPop ma mb) :=
  PE.imp (pe_dpop1 ho he m) fun σ H Q q => by
    obtain ⟨p, S, E, hs, he, q⟩ := q
    refine lE_step hs he (post_mono (fun x S1 p1 H1 x1 hs1 q1 v rv => ?_) (post_bind q))
    split at q1
    · rename_i hd
      obtain ⟨a, rfl, hD⟩ := isDk_read hs1 rv hd
      refine ⟨a, rfl, hD, lE_step hs1 (he.mono x1.pre x1.tup) (post_mono (fun y S2 p2 H2 x2 hs2 q2 w rw' => ?_) (post_bind q1))⟩
      have rv2 := rv.mono x2.pre x2.tup
      unfold fPop at q2
      split at q2
      · rename_i n
        obtain ⟨b, eb, e1⟩ := rv2
        cases e1
        split at q2
        · rename_i kvs hk
          split at q2
          · rename_i k hkey
            split at q2
            · rename_i d hg
              obtain ⟨y', ey, ws, rfl, rk⟩ := hs2.get n a _ eb hk
              obtain ⟨u, hu, ru⟩ := (rk.val (k := k)).1 d hg
              have x3 : Ext (gX X) p2 H2 p2 (upd H2 a (.dK (dropK ws k))) := Ext.set (mem_of_get eb) ey (.inl rfl) (fun _ _ z => by cases z)
              refine ⟨ws, k, u, ey, toKey_read rw' hkey, hu, q2 p2 _ x3 (hs2.set eb hk ey (.inl rfl) ⟨_, rfl, rk.drop⟩) _ (ru.mono x3.pre x3.tup)⟩
            · exact q2.elim
          · exact q2.elim
        · exact q2.elim
      · exact q2.elim
    · exact q1.elim
/-- o[i] = v -/
def fSet (o i v : D) (S : Sto) : Rs Unit := match o with
  | .ref n => match S[n]? with
    | some (.lst ds) => match i with
      | .int i => match ixN ds.length i with
        | some j => .ok () (S.set n (.lst (ds.set j v)))
        | none => .bad
      | _ => .bad
    | some (.dk kvs) => match toKey i with
      | some k => if kvs.length < sizeLine then .ok () (S.set n (.dk (setK kvs k v))) else .bad
      | none => .bad
    | _ => .bad
  | _ => .bad
def tSetA : TSet := fun o i v H Q => rSetL o i v H Q ∨ ∃ a H', o = .ref a ∧ DPut H a i v H' ∧ Q H'
theorem set_any (hu : X.A.units + 1 < cLine) : PSet X tSetA := by
  intro pins s σ H o i v ov iv u Q I ro ri rv h
  rcases h with h | ⟨a, H', rfl, g, q⟩
  · exact set_list pins s σ H o i v ov iv u Q I ro ri rv h
  · obtain rfl : ov = Value.ref a := ro
    exact d_setItem hu I g ri rv fun s' I' => ⟨H', I', q⟩
theorem pr_set {K : KX} : PrimS K W tSetA fSet := by
  intro p S H o i d ov iv v Q hs ro ri rd q
  unfold fSet at q
  split at q
  · rename_i n
    obtain ⟨a, ea, rfl⟩ := ro
    split at q
    · rename_i ds hd
      obtain ⟨us, ex, rs⟩ := lst_at hs ea hd
      split at q
      · rename_i k
        split at q
        · rename_i j hj
          have x1 : Ext K p H p (upd H a (.lst (us.set j v))) := Ext.set (mem_of_get ea) ex (.inl rfl) (fun _ _ z => by cases z)
          exact .inl ⟨a, us, k, j, rfl, ri, ex, by rw [← rs.length]; exact hj, q p _ x1 (hs.set ea hd ex (.inl rfl) ⟨_, rfl, rs.set j rd⟩)⟩
        · exact q.elim
      · exact q.elim
    · rename_i kvs hd
      obtain ⟨x, ex, ws, rfl, rk⟩ := hs.get n a _ ea hd
      split at q
      · rename_i k hk
        split at q
        · rename_i hz
          have x1 : Ext K p H p (upd H a (.dK (putK ws k v))) := Ext.set (mem_of_get ea) ex (.inl rfl) (fun _ _ z => by cases z)
          refine .inr ⟨a, _, rfl, .inl ⟨ws, k, ex, toKey_read ri hk, by rw [← rk.length]; exact hz, rfl⟩, q p _ x1 (hs.set ea hd ex (.inl rfl) ⟨_, rfl, rk.put rd⟩)⟩
        · exact q.elim
      · exact q.elim
    · exact q.elim
  · exact q.elim
/-! dict displays -/
def mDnew : En → Sto → Rs D := fun _ S => .ok (.ref S.length) (S ++ [.dk []])
theorem me_dnew {pos : Pos} : ME X W (.Dict [] [] pos) mDnew := PE.imp pe_dnewK fun σ H Q q => by
  obtain ⟨p, S, E, hs, he, q⟩ := q
  exact fun a ha => new_obj hs (o := .dk []) ⟨[], rfl, .nil'⟩ q ha
def dPairs : List ((En → Sto → Rs D) × (En → Sto → Rs D)) → En → Sto → Rs (List (Key × D))
  | [], _, S => .ok [] S
  | (mk, mv) :: r, E, S => (mk E S).bind fun x S1 => (mv E S1).bind fun y S2 => (dPairs r E S2).bind fun ps S3 => match toKey x with
    | some k => .ok ((k, y) :: ps) S3
    | none => .bad
def mergeD (kvs more : List (Key × D)) : List (Key × D) := more.foldl (fun acc kv => setK acc kv.1 kv.2) kvs
def mDisp (ms : List ((En → Sto → Rs D) × (En → Sto → Rs D))) : En → Sto → Rs D := fun E S => (dPairs ms E S).bind fun ps S1 => if ps.length ≤ 15 then .ok (.ref S1.length) (S1 ++ [.dk (mergeD [] ps)]) else .bad
theorem RKs.merge {K : KX} {p : List Addr} {H : Hp} : ∀ {more : List (Key × D)} {wm : List (Key × V)} {kvs : List (Key × D)} {ws : List (Key × V)}, RKs K p H more wm → RKs K p H kvs ws → RKs K p H (mergeD kvs more) (mergeK ws wm)
  | [], wm, kvs, ws, h, h' => by rw [h.nil]; exact h'
  | (k, d) :: r, wm, kvs, ws, h, h' => by
    obtain ⟨v, s, rfl, rv, rr⟩ := h.cons
    exact RKs.merge (more := r) (wm := s) rr (h'.put rv)
abbrev lEs (K : KX) (W : XW) (ms : List ((En → Sto → Rs D) × (En → Sto → Rs D))) : List (TE × TE) := ms.map fun x => (lE K W x.1, lE K W x.2)
theorem pairs_read {K : KX} {E : En} {σ : St} : ∀ {ms : List ((En → Sto → Rs D) × (En → Sto → Rs D))} {p : List Addr} {S : Sto} {H : Hp} {k : List (Key × D) → Sto → List Addr → Hp → Prop} {R : List (V × V) → Hp → Prop}, RS K p S H → RE K p H E σ →
    post K W p H (dPairs ms E S) k → (∀ ps S' p' H' ws, Ext K p H p' H' → RS K p' S' H' → RKs K p' H' ps ws → k ps S' p' H' → R (ws.map fun kv => (kV kv.1, kv.2)) H') → tPairs (lEs K W ms) σ H R
  | [], p, S, H, k, R, hs, he, q, h => h [] S p H [] (Ext.refl _ _) hs .nil' (post_ok q hs)
  | (mk, mv) :: r, p, S, H, k, R, hs, he, q, h => by
    refine lE_step hs he (post_mono (fun x S1 p1 H1 x1 hs1 q1 v rv => ?_) (post_bind q))
    refine lE_step hs1 (he.mono x1.pre x1.tup) (post_mono (fun y S2 p2 H2 x2 hs2 q2 u ru => ?_) (post_bind q1))
    refine pairs_read hs2 ((he.mono x1.pre x1.tup).mono x2.pre x2.tup) (post_bind q2) fun ps S3 p3 H3 ws x3 hs3 rk q3 => ?_
    split at q3
    · rename_i kk hk
      have e1 := toKey_read rv hk
      subst e1
      exact h ((kk, y) :: ps) S3 p3 H3 ((kk, u) :: ws) ((x1.trans x2).trans x3) hs3 (.mk (ru.mono x3.pre x3.tup) rk) (post_ok q3 hs3)
    · exact q3.elim
theorem me_disp {pos : Pos} {keys : List (Option Expr)} {values : List Expr} {ms : List ((En → Sto → Rs D) × (En → Sto → Rs D))} (h : PPs X pos keys values (lEs (gX X) W ms)) (hall : keys.all (·.isSome) = true) (hl : keys.length = values.length) (h0 : keys ≠ []) (h15 : keys.length ≤ 15) :
    ME X W (.Dict keys values pos) (mDisp ms) :=
  PE.imp (pe_disp h hall hl h0 h15) fun σ H Q q => by
    obtain ⟨p, S, E, hs, he, q⟩ := q
    intro c hc
    have x0 : Ext (gX X) p H p (upd H c (.dK [])) := Ext.new hc
    refine pairs_read (hs.frame hc) (he.mono x0.pre x0.tup) (post_base x0 (post_bindB q)) fun ps S1 p1 H1 ws x1 hs1 rk q1 => ?_
    have hcp : c ∉ p := hs.notin hc
    obtain ⟨hc1, hH1⟩ := x1.frm c _ hcp upd_same (fun _ z => by cases z)
    split at q1
    · rename_i hz
      have hx : Ext (gX X) p H (p1 ++ [c]) (upd H1 c (.dK (mergeK [] ws))) := by
        have xx := x0.trans x1
        have k2 : Keep (gX X) H1 (upd H1 c (.dK (mergeK [] ws))) := Keep.set hH1 (.inl rfl)
        refine ⟨xx.pre.trans (Pre.add _ _), xx.tup.trans k2, fun b ob h1 h2 h3 => ?_, fun b ob u h2 => ?_⟩
        · obtain ⟨a1, a2⟩ := xx.frm b ob h1 h2 h3
          have hb : b ≠ c := ne_of_none h2 hc
          refine ⟨fun z => ?_, by rw [upd_ne hb]; exact a2⟩
          rcases List.mem_append.mp z with z | z
          · exact a1 z
          · exact hb (by simpa using z)
        · rw [upd_ne (ne_of_none h2 hc)]
          exact xx.frz _ _ _ h2
      have hsd := hs1.del hc1 hH1 rfl
      have kd : Keep (gX X) H1 (del H1 c) := Keep.del hH1 rfl
      have hs2 := hsd.alloc (a := c) (o := .dk (mergeD [] ps)) del_same ⟨mergeK [] ws, rfl, (rk.mono (Pre.refl _) kd).merge .nil'⟩
      have eH : upd (del H1 c) c (.dK (mergeK [] ws)) = upd H1 c (.dK (mergeK [] ws)) := by
        funext b
        by_cases hb : b = c
        · subst hb; rw [upd_same, upd_same]
        · rw [upd_ne hb, upd_ne hb, del_ne hb]
      rw [eH] at hs2
      refine ⟨hH1, ws, rfl, by rw [← rk.length]; exact hz, q1 _ _ hx hs2 _ ⟨c, ?_, rfl⟩⟩
      rw [← hs1.len]; simp
    · exact q1.elim
end
end M

namespace M
open PySem L2 PySem.Spec

/-! ### enumerate(a tuple) -/
theorem meets_enum1 {v : Value} {o : Obj} {H : Heap → Prop} (B : Begins v o H) :
    Meets (Builtin.«enumerate.__new__» ⟨[.type "enumerate", v], []⟩) (fun _ R s => H s.heap ∧
      R (.ok (.ret (.ref (s.heap.push o).objs.size))) { s with heap := (s.heap.push o).push { cls := .type "enumerate", data := .fields #[.none, .bool false, .ref s.heap.objs.size, rawInt 0, .none, .none] } }) :=
  .of_wp fun prog w A R s h => by
    obtain ⟨hp, g, d, tk, os⟩ := s; obtain ⟨h1, h⟩ := h
    have hsub := sub_enumerate
    have q1 : ∀ {A' : Around} {E : Value → Shared → Prop} {Q : Value → Shared → Prop}, Q (.ref hp.objs.size) ⟨hp.push o, g, d, tk, os⟩ → wpAny (model prog w) A' (pyIter v) Q E ⟨hp, g, d, tk, os⟩ :=
      fun q => B.iter prog w _ _ ⟨hp, g, d, tk, os⟩ _ h1 q
    wp_walk using q1
    refine wpAny_stack_any fun st => wpAny_pure ?_
    split
    · rename_i c _ _ _ _ _
      cases (c == Value.type "enumerate")
      · wp_walk using q1
        exact ⟨_, rfl, h⟩
      · wp_walk using q1
        exact ⟨_, rfl, h⟩
    · wp_walk using q1
      exact ⟨_, rfl, h⟩
section
variable {prog : Program} {w : World} {A : Around} {E : Value → Shared → Prop} {s : Shared}
theorem enum_begin1 {v : Value} {o : Obj} {H : Heap → Prop} {Q : Value → Shared → Prop} (B : Begins v o H) (h1 : H s.heap)
    (h : ∀ h', IsEnum h' (s.heap.objs.size + 1) s.heap.objs.size 0 .none → h'.get? s.heap.objs.size = some o → h'.objs.size = s.heap.objs.size + 2 →
      (∀ b o, s.heap.get? b = some o → h'.get? b = some o) → Q (.ref (s.heap.objs.size + 1)) { s with heap := h' }) :
    wpAny (model prog w) A (call (.type "enumerate") [v]) Q E s := by
  refine callType_new F.called_enumerate (by decide) (F.typeCall_enumerate_1 _) (F.newCall_enumerate_1 _) (fun obj => F.args_object_init_2 obj _) F.entry_enumerate_new
    (meets_enum1 B) ⟨h1, ?_⟩
  have hz : (s.heap.push o).objs.size = s.heap.objs.size + 1 := Heap.size_push ..
  show _ ∧ _
  rw [hz]
  have he : IsEnum ((s.heap.push o).push { cls := .type "enumerate", data := .fields #[.none, .bool false, .ref s.heap.objs.size, rawInt 0, .none, .none] }) (s.heap.objs.size + 1) s.heap.objs.size 0 .none := by
    have := Heap.get?_push_size (s.heap.push o) (o := { cls := .type "enumerate", data := .fields #[.none, .bool false, .ref s.heap.objs.size, rawInt 0, .none, .none] }) rfl
    rw [hz] at this; exact this
  refine ⟨⟨_, he, rfl⟩, h _ he (Heap.get?_push_of_some _ (Heap.get?_push_size _ B.free)) (by rw [Heap.size_push, hz]) fun b o x => Heap.get?_push_of_some _ (Heap.get?_push_of_some _ x)⟩
end
/-- the tuple at a, each item in a new pair -/
def IteT (K : PySem.W.Frag) (a : Addr) : It :=
  ⟨fun i H => ∃ (xs : List V) (x : V), SqT K H a xs ∧ xs[i]? = some x, fun i H v H' => ∃ T x, v = .ref T ∧ H T = none ∧ H' = upd H T (.tup [.int (i : Nat), x]) ∧ ∀ xs, SqT K H a xs → xs[i]? = some x, fun i H => ∃ xs : List V, SqT K H a xs ∧ xs.length = i⟩
theorem turn_enumT {P : Program} {w : World} {K : PySem.W.Frag} {elts : List Expr} {kk : Nat} {tpos : Pos} (a e it : Addr) :
    Turn P w K (.Tuple elts kk tpos) (IteT K a) [e, it] e (fun i h => (∃ old, IsEnum h e it ((i : Nat) : Int) old) ∧ h.IsTupleIter it a i ∧ e ≠ it ∧ a ≠ it ∧ a ≠ e) where
  mem := by simp
  obj := fun i h st b hb => by
    obtain ⟨⟨old, he⟩, ⟨o, ho, hc, hd⟩, _⟩ := st
    have e' : b = e ∨ b = it := by simpa using hb
    rcases e' with z | z
    · rw [z]; exact ⟨_, he, fun v q => nomatch q⟩
    · rw [z]; exact ⟨o, ho, fun v q => by rw [hd] at q; cases q⟩
  keep := fun i h h' st k => let ⟨⟨old, he⟩, hi, hne⟩ := st; ⟨⟨old, k e (by simp) _ he⟩, hi.at fun o q => k it (by simp) o q, hne⟩
  item := by
    intro X hP hw hK hc i pins s σ H E I hf st hg
    subst hP hw hK
    obtain ⟨⟨old, he⟩, hit, hne, hai, hae⟩ := st
    obtain ⟨xs, x, hq, hx⟩ := hg
    obtain ⟨its, rv, p, hz⟩ := I.tuple hq
    obtain ⟨u, hu, ru⟩ := rv.get hx
    have hel : e < s.heap.objs.size := Heap.lt_size he
    have hil : it < s.heap.objs.size := by obtain ⟨_, q, _⟩ := hit; exact Heap.lt_size q
    have Dr := Draws.tuple (prog := X.prog) (w := X.w) (A := X.A.in1) (I.ok.hd hc) it a hai its.toArray
    refine wpAny_pyNext_enum_itemD Dr he ⟨hit, p⟩ (by simpa using (List.getElem?_eq_some_iff.mp hu).1) hne (by simp [hne, Ne.symm hae]) fun x' h' tk hPx ho hst' hT hsz hk => ?_
    have ex : x' = u := by
      have h1 : its[i]? = some x' := by simpa using hPx
      rw [hu] at h1
      exact (Option.some.inj h1).symm
    subst ex
    refine ⟨_, rfl, wpAny_letOwnedTupleGo_enum (s := { s with heap := h', toks := tk + 1 }) ho fun h'' he' sb => ?_⟩
    have hT2 : h''.get? s.heap.objs.size = some { cls := .type "tuple", data := .seq #[.int i tk, x'] } := (sb.2 _ (Nat.ne_of_gt hel)).trans hT
    have new : ObjOk X.prog X.w (upd H s.heap.objs.size (.tup [.int (i : Nat), x])) h'' s.heap.objs.size (.tup [.int (i : Nat), x]) :=
      ⟨by show 2 ≤ sizeLine; decide, [.int i tk, x'], .cons ⟨_, rfl⟩ (.cons ru .nil), ⟨_, hT2, rfl, _, rfl⟩⟩
    have I1 : Inv X pins σ (upd H s.heap.objs.size (.tup [.int (i : Nat), x])) { s with heap := h'', toks := tk + 1 } :=
      I.turnedNew (ch := [e, it]) (fun b ob hb q => (sb.2 b (fun z => hb (by simp [z]))).trans (hk b ob (fun z => hb (by simp [z])) (fun z => hb (by simp [z])) q)) hf (Nat.le_refl _) new
    refine ⟨.ref s.heap.objs.size, _, I1, rfl, ⟨_, x, rfl, I.hok.fresh (Nat.le_refl _), rfl, fun ys hy => by rw [I.tuple_inj hy hq]; exact hx⟩, ⟨⟨x', ?_⟩, hst'.1.at fun o q => (sb.2 it (Ne.symm hne)).trans q, hne, hai, hae⟩, fun b hb => ?_⟩
    · have e1 : ((i + 1 : Nat) : Int) = (i : Int) + 1 := by omega
      rw [e1]; exact he'
    · have hb' : b < s.heap.objs.size := by
        have e' : b = e ∨ b = it := by simpa using hb
        rcases e' with z | z
        · rw [z]; exact hel
        · rw [z]; exact hil
      rw [upd_ne (Nat.ne_of_lt hb')]
      exact (hf b hb).1
  done := by
    intro X hP hw hK hc i pins s σ H E I hf st hg
    subst hP hw hK
    obtain ⟨⟨old, he⟩, hit, hne, hai, hae⟩ := st
    obtain ⟨xs, hq, hx⟩ := hg
    obtain ⟨its, rv, p, hz⟩ := I.tuple hq
    obtain ⟨f0, f1, f2, f3, f4, f5⟩ := hf it (by simp)
    have hl := rv.length
    have hin : i = its.toArray.size := by simp; omega
    subst hin
    have Dr := Draws.tuple (prog := X.prog) (w := X.w) (A := X.A.in1) (I.ok.hd hc) it a hai its.toArray
    exact wpAny_pyNext_enum_endD Dr he ⟨hit, p⟩ fun h' eb => ⟨rfl, I.turned (t' := s.toks) (fun b o hb q => eb b o hb q) f0 f1 f3 f4 f5⟩
  self := fun A i s Q E st h => let ⟨⟨_, he⟩, _⟩ := st; wpAny_pyIter_enum he h

def iEnumA (X : Cx) (ta : TA) : TI := fun σ H R => ta σ H fun vs H1 => ∃ a xs, vs = [.ref a] ∧ ((SqL X.K H1 a xs ∧ R (Ite X.K a) H1) ∨ (SqT X.K H1 a xs ∧ R (IteT X.K a) H1))
theorem pi_enumA {X : Cx} {e : Expr} {ta : TA} {p pos tpos : Pos} {elts : List Expr} {kk : Nat} (hg : Gl X "enumerate") (hm : X.mg "enumerate" = none) (ha : PA X [e] ta) (hs : starEach [e] X.env = [(false, eval e X.env)] := by rfl) :
    PI X (.Tuple elts kk tpos) (.Call (.Name "enumerate" p) [e] [] pos) (iEnumA X ta) := by
  refine ⟨fun pins s σ H R I h => ?_⟩
  refine PyProof.Rows.Call_ (ld_blt I hg hm PyProof.Rows.boot_enumerate (PyProof.Rows.callWith_type1 (thn (ha.run pos pins s σ H _ I h) fun us s1 ⟨vs, H1, I1, r1, q1⟩ => ?_) hs rfl))
  obtain ⟨a, xs, ex, q1⟩ := q1
  subst ex
  cases r1 with
  | cons r rr =>
    cases rr
    cases r
    have fp : ∀ b, b ∈ [s1.heap.objs.size + 1, s1.heap.objs.size] → FpOk X pins H1 b := fun b hb => by
      have e' : b = s1.heap.objs.size + 1 ∨ b = s1.heap.objs.size := by simpa using hb
      have hle : s1.heap.objs.size ≤ b := by
        rcases e' with z | z
        · rw [z]; exact Nat.le_add_right _ _
        · rw [z]; exact Nat.le_refl _
      exact I1.fpOk hle (I1.hok.fresh hle)
    rcases q1 with ⟨hq, q⟩ | ⟨hq, q⟩
    · obtain ⟨its, rv, p', hz⟩ := I1.list hq
      refine call_enumerate_list p'.isList fun h' he hit hsz hk => wpAny_pyIter_enum he ?_
      have I2 : Inv X pins σ H1 { s1 with heap := h' } := I1.kept (t' := s1.toks) hk
      exact ⟨s1.heap.objs.size + 1, [s1.heap.objs.size + 1, s1.heap.objs.size], _, _, H1, rfl, I2, turn_enum a (s1.heap.objs.size + 1) s1.heap.objs.size, ⟨⟨.none, he⟩, hit, Nat.succ_ne_self _⟩, fp, q⟩
    · obtain ⟨its, rv, p', hz⟩ := I1.tuple hq
      have hlt : a < s1.heap.objs.size := by obtain ⟨o, ho, _⟩ := p'; exact Heap.lt_size ho
      refine enum_begin1 (begins_tuple a its.toArray) p' fun h' he hit hsz hk => wpAny_pyIter_enum he ?_
      have I2 : Inv X pins σ H1 { s1 with heap := h' } := I1.kept (t' := s1.toks) hk
      exact ⟨s1.heap.objs.size + 1, [s1.heap.objs.size + 1, s1.heap.objs.size], _, _, H1, rfl, I2, turn_enumT a (s1.heap.objs.size + 1) s1.heap.objs.size, ⟨⟨.none, he⟩, ⟨_, hit, rfl, rfl⟩, Nat.succ_ne_self _, Nat.ne_of_lt hlt, Nat.ne_of_lt (Nat.lt_succ_of_lt hlt)⟩, fp, q⟩
section
variable {X : Cx} {W : XW}
/-- enumerate(x) -/
def pairsN (ds : List D) : List D := ds.zipIdx.map fun x => .tup [.int (x.2 : Nat), x.1]
def aiEnum (ds : List D) (S : Sto) : Rs AI := match ds with
  | [.tup xs] => .ok ⟨pairsN xs, fun _ => True, none⟩ S
  | [.rl ns] => .ok ⟨pairsN (ns.map .int), fun _ => True, none⟩ S
  | [.ref n] => match S[n]? with
    | some (.lst xs) => .ok ⟨pairsN xs, fun S => S[n]? = some (.lst xs), none⟩ S
    | _ => .bad
  | _ => .bad
def iEn (t : En → Sto → Rs (List D)) : En → Sto → Rs AI := fun E S => (t E S).bind aiEnum
theorem pairsN_get {ds : List D} {i : Nat} {d : D} (h : (pairsN ds)[i]? = some d) : ∃ x, ds[i]? = some x ∧ d = .tup [.int (i : Nat), x] := by
  unfold pairsN at h
  rw [List.getElem?_map] at h
  cases hq : ds.zipIdx[i]? with
  | none => rw [hq] at h; cases h
  | some y =>
    rw [hq] at h
    rw [List.getElem?_zipIdx] at hq
    cases hd : ds[i]? with
    | none => rw [hd] at hq; cases hq
    | some x =>
      rw [hd] at hq
      simp at hq
      subst hq
      simp at h
      exact ⟨x, rfl, h.symm⟩
theorem pairsN_len (ds : List D) : (pairsN ds).length = ds.length := by simp [pairsN]
/-- a new pair given out -/
theorem pair_y {q : List Addr} {S : Sto} {H' H2 : Hp} {T : Addr} {x : V} {i : Nat} {d : D} (hT : H' T = none) (e : H2 = upd H' T (.tup [.int (i : Nat), x])) (r : RS (gX X) q S H') (rd : RD (gX X) q H' d x) :
    Ext (gX X) q H' q H2 ∧ RS (gX X) q S H2 ∧ RD (gX X) q H2 (.tup [.int (i : Nat), d]) (.ref T) := by
  subst e
  have x1 : Ext (gX X) q H' q (upd H' T (.tup [.int (i : Nat), x])) := Ext.new hT
  exact ⟨x1, r.frame hT, T, _, rfl, .of upd_same, _, _, rfl, rfl, _, _, rfl, rd.mono x1.pre x1.tup, rfl⟩
theorem mi_enum {e : Expr} {t : En → Sto → Rs (List D)} {p pos tpos : Pos} {elts : List Expr} {kk : Nat} (hg : Gl X "enumerate") (hm : X.mg "enumerate" = none) (ha : MA X W [e] t) (hs : starEach [e] X.env = [(false, eval e X.env)] := by rfl) :
    MI X W (.Tuple elts kk tpos) (.Call (.Name "enumerate" p) [e] [] pos) (iEn t) :=
  PI.imp (pi_enumA hg hm ha hs) fun σ H R q => by
    obtain ⟨p, S, E, hs, he, q⟩ := q
    refine ⟨p, S, E, hs, he, post_mono (fun ds S1 p1 H1 x1 hs1 q1 vs rvs => ?_) (post_bind q)⟩
    unfold aiEnum at q1
    split at q1
    · obtain ⟨v, rfl, rv⟩ := one_of rvs
      obtain ⟨a, us, rfl, e, rs⟩ := rv
      refine ⟨a, us, rfl, .inr ⟨e, post_ok q1 hs1 _ _ .none ⟨fun i q S H' e' r g hi => ?_, fun q S H' e' r g => ?_, fun i q S H' y H2 dd e' r g hi yy => ?_⟩⟩⟩
      · have hi' : i < us.length := by rw [← rs.length, ← pairsN_len]; exact hi
        exact ⟨us, us[i], e'.tup.tup _ _ e, by simp [hi']⟩
      · exact ⟨us, e'.tup.tup _ _ e, by rw [← rs.length]; exact (pairsN_len _).symm⟩
      · obtain ⟨x, hx, rfl⟩ := pairsN_get hi
        obtain ⟨T, z, rfl, hT, e2, hz⟩ := yy
        obtain ⟨w, hw, rw'⟩ := (rs.mono e'.pre e'.tup).get hx
        have := hz us (e'.tup.tup _ _ e)
        rw [hw] at this; cases this
        exact pair_y hT e2 r rw'
    · obtain ⟨v, rfl, rv⟩ := one_of rvs
      obtain ⟨a, rfl, e⟩ := rv
      refine ⟨a, _, rfl, .inl ⟨e.sq, post_ok q1 hs1 _ _ .none ⟨fun i q S H' e' r g hi => ?_, fun q S H' e' r g => ?_, fun i q S H' y H2 dd e' r g hi yy => ?_⟩⟩⟩
      · rw [pairsN_len, List.length_map] at hi
        exact ⟨_, _, (e'.tup.rdl _ _ e).sq, by rw [List.getElem?_map, List.getElem?_eq_getElem hi]; rfl⟩
      · exact ⟨_, (e'.tup.rdl _ _ e).sq, by rw [pairsN_len, List.length_map, List.length_map]; exact Nat.le_refl _⟩
      · obtain ⟨x, hx, rfl⟩ := pairsN_get hi
        obtain ⟨T, z, rfl, hT, e2, hz⟩ := yy
        obtain ⟨w, hw, rw'⟩ := (rds_ints (K := gX X) (p := q) (H := H') _).get hx
        have := hz _ (e'.tup.rdl _ _ e).sq
        rw [hw] at this; cases this
        exact pair_y hT e2 r rw'
    · rename_i n
      obtain ⟨v, rfl, rv⟩ := one_of rvs
      obtain ⟨a, ea, rfl⟩ := rv
      split at q1
      · rename_i xs hd
        obtain ⟨us, ex, rs⟩ := lst_at hs1 ea hd
        have lst : ∀ q (S : Sto) H', Ext (gX X) p1 H1 q H' → RS (gX X) q S H' → S[n]? = some (.lst xs) → ∃ us, H' a = some (.lst us) ∧ RDs (gX X) q H' xs us := fun q S H' e r g => lst_at r (e.pre.get ea) g
        refine ⟨a, us, rfl, .inl ⟨.of ex, post_ok q1 hs1 _ _ .none ⟨fun i q S H' e' r g hi => ?_, fun q S H' e' r g => ?_, fun i q S H' y H2 dd e' r g hi yy => ?_⟩⟩⟩
        · obtain ⟨ws, ew, rw'⟩ := lst q S H' e' r g
          have hi' : i < ws.length := by rw [← rw'.length, ← pairsN_len]; exact hi
          exact ⟨ws, ws[i], .of ew, by simp [hi']⟩
        · obtain ⟨ws, ew, rw'⟩ := lst q S H' e' r g
          exact ⟨ws, .of ew, by rw [← rw'.length, pairsN_len]; exact Nat.le_refl _⟩
        · obtain ⟨ws, ew, rw'⟩ := lst q S H' e' r g
          obtain ⟨x, hx, rfl⟩ := pairsN_get hi
          obtain ⟨T, z, rfl, hT, e2, hz⟩ := yy
          obtain ⟨w, hw, rw2⟩ := rw'.get hx
          have := hz ws (.of ew)
          rw [hw] at this; cases this
          exact pair_y hT e2 r rw2
      · exact q1.elim
    · exact q1.elim
/-! ### range -/
def rangeD (lo hi : Int) : List D := (List.range (hi - lo).toNat).map fun i => .int (lo + (i : Nat))
def aiR1 (ds : List D) (S : Sto) : Rs AI := match ds with
  | [.int j] => if -(2 ^ 62) ≤ j ∧ j < 2 ^ 62 then .ok ⟨rangeD 0 j, fun _ => True, none⟩ S else .bad
  | _ => .bad
def aiR2 (ds : List D) (S : Sto) : Rs AI := match ds with
  | [.int i, .int j] => if -(2 ^ 62) ≤ i ∧ i < 2 ^ 62 ∧ -(2 ^ 62) ≤ j ∧ j < 2 ^ 62 then .ok ⟨rangeD i j, fun _ => True, none⟩ S else .bad
  | _ => .bad
theorem wd_range {p : List Addr} {H : Hp} {lo hi : Int} : WD X p H (Itr lo (hi - lo).toNat) ⟨rangeD lo hi, fun _ => True, none⟩ := by
  refine wd_walk walk_range (by simp [rangeD]) (fun _ _ _ _ _ _ => trivial) fun i q S H' x H2 dd e r g hi y => ?_
  obtain ⟨e2, rfl⟩ := y
  refine same_y e2 r ?_
  unfold rangeD at hi
  rw [List.getElem?_map] at hi
  rw [List.getElem?_range] at hi
  · cases hi; rfl
  · have := (List.getElem?_eq_some_iff.mp (show (List.map (fun i : Nat => D.int (lo + i)) (List.range _))[i]? = some dd by rw [List.getElem?_map]; exact hi)).1
    simpa using this
theorem mi_range1 {tg a : Expr} {t : En → Sto → Rs (List D)} {p pos : Pos} (hg : Gl X "range") (hm : X.mg "range" = none) (ha : MA X W [a] t) (hs : starEach [a] X.env = [(false, eval a X.env)] := by rfl) : MI X W tg (.Call (.Name "range" p) [a] [] pos) (fun E S => (t E S).bind aiR1) :=
  PI.imp (pi_range1 hg hm ha hs) fun σ H R q => by
    obtain ⟨p, S, E, hs, he, q⟩ := q
    refine ⟨p, S, E, hs, he, post_mono (fun ds S1 p1 H1 x1 hs1 q1 vs rvs => ?_) (post_bind q)⟩
    unfold aiR1 at q1
    split at q1
    · rename_i j
      obtain ⟨v, rfl, rv⟩ := one_of rvs
      obtain rfl := rv
      split at q1
      · rename_i hb
        refine ⟨_, rfl, hb.1, hb.2, post_ok q1 hs1 _ _ .none ?_⟩
        have := wd_range (X := X) (p := p1) (H := H1) (lo := 0) (hi := j)
        simpa using this
      · exact q1.elim
    · exact q1.elim
theorem mi_range2 {tg a b : Expr} {t : En → Sto → Rs (List D)} {p pos : Pos} (hg : Gl X "range") (hm : X.mg "range" = none) (ha : MA X W [a, b] t) (hs : starEach [a, b] X.env = [(false, eval a X.env), (false, eval b X.env)] := by rfl) (hs2 : starEach [b] X.env = [(false, eval b X.env)] := by rfl) :
    MI X W tg (.Call (.Name "range" p) [a, b] [] pos) (fun E S => (t E S).bind aiR2) :=
  PI.imp (pi_range2 hg hm ha hs hs2) fun σ H R q => by
    obtain ⟨p, S, E, hs, he, q⟩ := q
    refine ⟨p, S, E, hs, he, post_mono (fun ds S1 p1 H1 x1 hs1 q1 vs rvs => ?_) (post_bind q)⟩
    unfold aiR2 at q1
    split at q1
    · obtain ⟨v, u, rfl, rv, ru⟩ := two_of rvs
      obtain rfl := rv
      obtain rfl := ru
      split at q1
      · rename_i hb
        exact ⟨_, _, rfl, hb, post_ok q1 hs1 _ _ .none wd_range⟩
      · exact q1.elim
    · exact q1.elim
/-! ### the values of a dict -/
/-- ahead of what walks it the dict is locked -/
theorem pe_glock {e : Expr} {t : TE} (h : PE X e t) : PE X e (fun σ H Q => t σ H fun v H1 => (∃ d kvs, v = .ref d ∧ H1 d = some (.dK kvs) ∧ ∀ od, (∀ o u, X.H_0 d ≠ some (.frz o u)) → Q v (upd H1 d (.frz od (.dK kvs)))) ∨ Q v H1) := by
  refine ⟨fun pins s σ H Q I hw => ?_⟩
  refine thn (h.run pins s σ H _ I hw) fun v s1 ⟨x, H1, I1, r, q⟩ => ?_
  rcases q with ⟨d, kvs, rfl, hd, q⟩ | q
  · obtain ⟨od, I2⟩ := I1.lock hd True.intro
    exact ⟨_, _, I2, r, q od (I1.nofrz hd True.intro)⟩
  · exact ⟨x, H1, I1, r, q⟩
def aiVals (d : D) (S : Sto) : Rs AI := match d with
  | .ref n => match S[n]? with
    | some (.dk kvs) => .ok ⟨kvs.map (·.2), fun S => S[n]? = some (.fd kvs), some n⟩ S
    | some (.fd kvs) => .ok ⟨kvs.map (·.2), fun S => S[n]? = some (.fd kvs), none⟩ S
    | _ => .bad
  | _ => .bad
theorem wd_vals {p : List Addr} {H : Hp} {n : Nat} {d : Addr} {od : Obj} {kvs : List (Key × D)} {ws : List (Key × V)} {lk : Option Nat} (hd : H d = some (.frz od (.dK ws))) (rk : RKs (gX X) p H kvs ws) :
    WD X p H (Itd d od ws) ⟨kvs.map (·.2), fun S => S[n]? = some (.fd kvs), lk⟩ := by
  refine wd_walk walk_values (by rw [List.length_map]; exact rk.length) (fun q S H' e r g => e.frz _ _ _ hd) fun i q S H' x H2 dd e r g hi y => ?_
  obtain ⟨e2, k, hk⟩ := y
  refine same_y e2 r ?_
  obtain ⟨d', hk', rd⟩ := key_get (rk.mono e.pre e.tup) hk
  rw [List.getElem?_map, hk'] at hi
  simp at hi
  subst hi
  exact rd
theorem mi_vals {tg e : Expr} {m : En → Sto → Rs D} {apos cpos : Pos} (he : ME X W e m) (hbase : attributeBase e "values" X.env (eval e X.env) = eval e X.env := by rfl) (hline : (apos.endLine == cpos.line) = true := by rfl) : MI X W tg (.Call (.Attribute e "values" apos) [] [] cpos) (fun E S => (m E S).bind aiVals) :=
  PI.imp (pi_values (pe_glock he) hbase hline) fun σ H R q => by
    obtain ⟨p, S, E, hs, he, q⟩ := q
    refine lE_step hs he (post_mono (fun d S1 p1 H1 x1 hs1 q1 v rv => ?_) (post_bind q))
    unfold aiVals at q1
    split at q1
    · rename_i n
      obtain ⟨a, ea, rfl⟩ := rv
      split at q1
      · rename_i kvs hd
        obtain ⟨x, ex, ws, rfl, rk⟩ := hs1.get n a _ ea hd
        refine .inl ⟨a, ws, rfl, ex, fun od hno => ⟨a, od, ws, rfl, upd_same, ?_⟩⟩
        have e0 : Ext (gX X) p1 H1 p1 (upd H1 a (.frz od (.dK ws))) := Ext.set (mem_of_get ea) ex (.inl rfl) (fun _ _ z => by cases z)
        have el : lockS (some n) S1 = S1.set n (.fd kvs) := by simp only [lockS, hd]
        exact post_ok q1 hs1 _ _ (by rw [el]; exact .some ea ex hno hd rk) (wd_vals upd_same (rk.mono e0.pre e0.tup))
      · rename_i kvs hd
        obtain ⟨x, ex, ob, ws, rfl, rk⟩ := hs1.get n a _ ea hd
        exact .inr ⟨a, ob, ws, rfl, ex, post_ok q1 hs1 _ _ .none (wd_vals ex rk)⟩
      · exact q1.elim
    · exact q1.elim
end
end M

namespace M
open PySem L2
section
variable {X : Cx} {W : XW}
/-! ### dict comprehensions -/
def lTD (K : KX) (W : XW) (m : En → Sto → Rs (List (Key × D))) : TE := fun σ H Q => ∃ p S E, RS K p S H ∧ RE K p H E σ ∧ post K W p H (m E S) fun ds _ p' H' => ∀ a ws, H' a = none → ws.length ≤ sizeLine → RKs K p' H' ds ws → Q (.ref a) (upd H' a (.dK ws))
abbrev TDi (X : Cx) (W : XW) (e : Expr) (m : En → Sto → Rs (List (Key × D))) : Prop := PE X e (lTD (gX X) W m)
open Classical in
noncomputable def compD (g : Sto → Prop) (body : D → Sto → Rs (Option (Key × D))) : List D → List (Key × D) → Sto → Rs (List (Key × D))
  | [], acc, S => if g S then .ok acc S else .bad
  | d :: r, acc, S => if g S then (noX (body d S)).bind fun o S1 => (match o with
      | some y => if acc.length < sizeLine then compD g body r (setK acc y.1 y.2) S1 else .bad
      | none => compD g body r acc S1) else .bad
def bodyD (vs : List Nat) (g : D → En → Sto → Rs En) (t : En → Sto → Rs Bool) (mk m : En → Sto → Rs D) (E : En) : D → Sto → Rs (Option (Key × D)) := fun d S =>
  (g d (wipeE vs E) S).bind fun E1 S1 => (t E1 S1).bind fun b S2 => if b = true then (mk E1 S2).bind fun k S3 => (m E1 S3).bind fun y S4 => (match toKey k with
    | some kk => .ok (some (kk, y)) S4
    | none => .bad) else .ok none S2
noncomputable def mCompD (mi : En → Sto → Rs AI) (vs : List Nat) (g : D → En → Sto → Rs En) (t : En → Sto → Rs Bool) (mk m : En → Sto → Rs D) : En → Sto → Rs (List (Key × D)) := fun E S => (mi E S).bind fun ai S1 =>
  (compD ai.g (bodyD vs g t mk m E) ai.items [] (lockS ai.lk S1)).bind fun ds S2 => unl ai.lk ds S2
theorem dc_read {mi : En → Sto → Rs AI} {vs : List Nat} {g : D → En → Sto → Rs En} {t : En → Sto → Rs Bool} {mk m : En → Sto → Rs D} {σ : St} {H : Hp} {Q : VK} (q : lTD (gX X) W (mCompD mi vs g t mk m) σ H Q) :
    tDc (lI X W mi) (lGo (gX X) W0 vs g) (lT (gX X) W0 t) (lE (gX X) W0 mk) (lE (gX X) W0 m) vs σ H fun v H' => ∃ H4, Un X H' H4 ∧ Q v H4 := by
  obtain ⟨p, S, E, hs, he, q⟩ := q
  refine ⟨p, S, E, hs, he, post_mono (fun ai S1 p1 H1 x1 hs1 q1 J H2 lk wd D hD => ?_) (post_bind q)⟩
  have hs2 := lk.rs hs1
  have x2 := lk.ext
  generalize lockS ai.lk S1 = S2 at lk hs2 q1
  have he2 : RE (gX X) p1 H2 (wipeE vs E) (wipe σ vs) := ((he.mono x1.pre x1.tup).mono x2.pre x2.tup).wipe vs
  refine ⟨fun i n H => ∃ p3 S3 acc us, n = ai.items.length - i ∧ i ≤ ai.items.length ∧ D ∉ p3 ∧ H D = some (.dK us) ∧ us.length ≤ sizeLine ∧ RKs (gX X) p3 H acc us ∧ Ext (gX X) p1 H2 p3 H ∧ RS (gX X) p3 S3 H ∧
    post (gX X) W p1 H1 (compD ai.g (bodyD vs g t mk m E) (ai.items.drop i) acc S3) (fun ds S' _ _ => post (gX X) W p1 H1 (unl ai.lk ds S') fun ds _ p' H' => ∀ a ws, H' a = none → ws.length ≤ sizeLine → RKs (gX X) p' H' ds ws → Q (.ref a) (upd H' a (.dK ws))),
    ⟨ai.items.length, p1, S2, [], [], by simp, Nat.zero_le _, hs2.notin hD, upd_same, Nat.zero_le _, .nil', Ext.new hD, hs2.frame hD, by simpa using post_bindB q1⟩, ?_⟩
  rintro i n H3 ⟨p3, S3, acc, us, rfl, hi, hn3, hD3, hz3, ra, x3, hs3, q3⟩
  by_cases hlt : i < ai.items.length
  · have hd : ai.items[i]? = some ai.items[i] := by simp [hlt]
    rw [List.drop_eq_getElem_cons hlt] at q3
    unfold compD at q3
    split at q3
    · rename_i hG
      refine .inr ⟨wd.go i p3 S3 H3 x3 hs3 hG hlt, fun H => ∃ p3 S3 acc us, ai.items.length - (i + 1) = ai.items.length - (i + 1) ∧ i + 1 ≤ ai.items.length ∧ D ∉ p3 ∧ H D = some (.dK us) ∧ us.length ≤ sizeLine ∧ RKs (gX X) p3 H acc us ∧ Ext (gX X) p1 H2 p3 H ∧ RS (gX X) p3 S3 H ∧
        post (gX X) W p1 H1 (compD ai.g (bodyD vs g t mk m E) (ai.items.drop (i + 1)) acc S3) (fun ds S' _ _ => post (gX X) W p1 H1 (unl ai.lk ds S') fun ds _ p' H' => ∀ a ws, H' a = none → ws.length ≤ sizeLine → RKs (gX X) p' H' ds ws → Q (.ref a) (upd H' a (.dK ws))), fun H' w => ⟨ai.items.length - (i + 1), by omega, w⟩, fun x H4 y => ?_⟩
      obtain ⟨x4, hs4, rx⟩ := wd.yld i p3 S3 H3 x H4 _ x3 hs3 hG hd y
      have x04 : Ext (gX X) p1 H1 p3 H4 := (x2.trans x3).trans x4
      have x24 := x3.trans x4
      obtain ⟨_, hD4⟩ := x4.frm D _ hn3 hD3 (fun _ z => by cases z)
      have q4 := post_noX (post_bindB q3)
      unfold bodyD at q4
      refine ⟨p3, S3, wipeE vs E, ai.items[i], hs4, he2.mono x24.pre x24.tup, rx, post_mono (fun E5 S5 p5 H5 x5 hs5 q5 σ5 he5 w5 => ⟨by rw [w5, wipe_idem], ?_⟩) (post_base x04 (post_bindB q4))⟩
      obtain ⟨hn5, hD5⟩ := x5.frm D _ hn3 hD4 (fun _ z => by cases z)
      have x05 := x04.trans x5
      refine ⟨p5, S5, E5, hs5, he5, post_mono (fun b S6 p6 H6 x6 hs6 q6 => ?_) (post_base x05 (post_bindB q5))⟩
      obtain ⟨hn6, hD6⟩ := x6.frm D _ hn5 hD5 (fun _ z => by cases z)
      have x06 := x05.trans x6
      have x26 := (x24.trans x5).trans x6
      cases b with
      | true =>
        refine ⟨p6, S6, E5, hs6, he5.mono x6.pre x6.tup, post_mono (fun ky S7 p7 H7 x7 hs7 q7 kv rkv => ?_) (post_base x06 (post_bindB q6))⟩
        obtain ⟨hn7, hD7⟩ := x7.frm D _ hn6 hD6 (fun _ z => by cases z)
        have x07 := x06.trans x7
        refine ⟨p7, S7, E5, hs7, (he5.mono x6.pre x6.tup).mono x7.pre x7.tup, post_mono (fun y S8 p8 H8 x8 hs8 q8 v rv => ?_) (post_base x07 (post_bindB q7))⟩
        obtain ⟨hn8, hD8⟩ := x8.frm D _ hn7 hD7 (fun _ z => by cases z)
        have x08 := x07.trans x8
        have x28 := (x26.trans x7).trans x8
        split at q8
        · rename_i kk hkk
          have ek := toKey_read (rkv.mono x8.pre x8.tup) hkk
          have q9 := q8 p8 H8 x08 hs8
          simp only at q9
          split at q9
          · rename_i hz
            have x48 := (((x4.trans x5).trans x6).trans x7).trans x8
            have e9 : RKs (gX X) p8 H8 acc us := ra.mono x48.pre x48.tup
            have hz' : us.length < sizeLine := by rw [← ra.length]; exact hz
            have k9 : Keep (gX X) H8 (upd H8 D (.dK (putK us kk v))) := Keep.set hD8 (.inl rfl)
            have hl9 : (putK us kk v).length ≤ sizeLine := by have := length_putK us kk v; omega
            refine ⟨us, kk, ek, hD8, hz', p8, S8, setK acc kk y, putK us kk v, rfl, hlt, hn8, upd_same, hl9, (e9.put rv).mono (Pre.refl _) k9, ?_, ?_, q9⟩
            · refine ⟨x28.pre, x28.tup.trans k9, fun b ob h1 h2 h3 => ⟨(x28.frm b ob h1 h2 h3).1, ?_⟩, fun b ob u h2 => ?_⟩
              · rw [upd_ne (ne_of_none h2 hD)]; exact (x28.frm b ob h1 h2 h3).2
              · rw [upd_ne (ne_of_none h2 hD)]; exact x28.frz b ob u h2
            · refine ⟨hs8.len, hs8.nd, fun n b ob e1 e2 => ?_⟩
              obtain ⟨z, ez, rz⟩ := hs8.get n b ob e1 e2
              have hb : b ≠ D := fun w => hn8 (by rw [← w]; exact mem_of_get e1)
              exact ⟨z, by rw [upd_ne hb]; exact ez, rz.mono (Pre.refl _) k9⟩
          · exact q9.elim
        · exact q8.elim
      | false =>
        have q8 := (q6 p6 H6 x06 hs6)
        exact ⟨p6, S6, acc, us, rfl, hlt, hn6, hD6, hz3, ra.mono ((x4.trans x5).trans x6).pre ((x4.trans x5).trans x6).tup, x26, hs6, q8⟩
    · exact q3.elim
  · have hi' : i = ai.items.length := by omega
    subst hi'
    rw [List.drop_length] at q3
    unfold compD at q3
    split at q3
    · rename_i hG
      have hsD := hs3.del hn3 hD3 rfl
      have xD := x3.del hD hD3 rfl
      obtain ⟨H7, S7, un, x7, hs7, k7, q7⟩ := unl_read lk xD hsD (q3 p3 H3 (x2.trans x3) hs3)
      obtain ⟨hn, un2⟩ := un_back hD3 un
      exact .inl ⟨wd.stop p3 S3 H3 x3 hs3 hG, _, un2, q7 D us hn hz3 (ra.mono (Pre.refl _) ((Keep.del hD3 rfl).trans k7))⟩
    · exact q3.elim
theorem td_dc {kx vx tg iter : Expr} {ifs : List Expr} {scope : Scope} {own : List (Str × Nat)} {pos : Pos} {mi : En → Sto → Rs AI} {g : D → En → Sto → Rs En} {t : En → Sto → Rs Bool} {mk m : En → Sto → Rs D} (hc : X.calm = true) (hN : X.N.Nodup) (hi : MI X W tg iter mi) (ok : BlkOk X.N X.env.scope scope own)
    (hg : ∀ (s : Shared) (H : Hp) (C : Addr) (cl : List (Str × Addr)) (fp : List Addr), MGo (X.blk s H scope (compEnvC scope cl C X.env) fp) W0 (own.map (·.2)) tg g) (ht : ∀ (s : Shared) (H : Hp) (C : Addr) (cl : List (Str × Addr)) (fp : List Addr), MTs (X.blk s H scope (compEnvC scope cl C X.env) fp) W0 ifs t)
    (hk : ∀ (s : Shared) (H : Hp) (C : Addr) (cl : List (Str × Addr)) (fp : List Addr), ME (X.blk s H scope (compEnvC scope cl C X.env) fp) W0 kx mk)
    (he : ∀ (s : Shared) (H : Hp) (C : Addr) (cl : List (Str × Addr)) (fp : List Addr), ME (X.blk s H scope (compEnvC scope cl C X.env) fp) W0 vx m) (hs : ∀ x, foldedSetIterable iter X.env x = pure x := by intro _; rfl) :
    TDi X W (.DictComp kx vx [⟨tg, iter, ifs, 0⟩] scope pos) (mCompD mi (own.map (·.2)) g t mk m) := PE.imp (pe_unl (pe_dc hc hN hi ok hg ht hk he hs)) fun _ _ _ q => dc_read q
def mAdD (m : En → Sto → Rs (List (Key × D))) : En → Sto → Rs D := fun E S => (m E S).bind fun ds S1 => .ok (.ref S1.length) (S1 ++ [.dk ds])
theorem me_adD {e : Expr} {m : En → Sto → Rs (List (Key × D))} (h : TDi X W e m) : ME X W e (mAdD m) := PE.imp h fun σ H Q q => by
  obtain ⟨p, S, E, hs, he, q⟩ := q
  refine ⟨p, S, E, hs, he, post_mono (fun ds S1 p1 H1 x1 hs1 q1 a ws ha hz rv => ?_) (post_bind q)⟩
  exact new_obj hs1 (o := .dk ds) ⟨ws, rfl, rv⟩ q1 ha
end
end M

namespace M
open PySem L2 PySem.Spec
/-! ### a lambda of one parameter -/
structure LamS1 (sc scope : Scope) (x : Str) : Prop where
  kind : scope.kind = .function
  co : scope.isCoroutine = false
  gen : scope.isGenerator = false
  own : ∀ y ∈ scope.names, y.2 ≠ .cell ∧ (y.2 = .local → y.1 = x)
  par : scope.names.lookup x = some .local
  free : ∀ y ∈ scope.names, y.2 = .free → sc.names.lookup y.1 = some .cell ∨ sc.names.lookup y.1 = some .free
def lamB1 (sc scope : Scope) (x : Str) : Bool :=
  decide (scope.kind = .function) && !scope.isCoroutine && !scope.isGenerator && decide (scope.names.lookup x = some .local) && scope.names.all fun y => !decide (y.2 = .cell) && (!decide (y.2 = .local) || decide (y.1 = x)) && (!decide (y.2 = .free) || decide (sc.names.lookup y.1 = some .cell) || decide (sc.names.lookup y.1 = some .free))
theorem lamS1_by {sc scope : Scope} {x : Str} (h : lamB1 sc scope x = true) : LamS1 sc scope x := by
  unfold lamB1 at h
  simp only [Bool.and_eq_true, Bool.or_eq_true, Bool.not_eq_true', decide_eq_true_eq, decide_eq_false_iff_not, List.all_eq_true] at h
  obtain ⟨⟨⟨⟨h1, h2⟩, h3⟩, h4⟩, h5⟩ := h
  refine ⟨h1, h2, h3, fun y hy => ⟨(h5 y hy).1.1, fun e => ?_⟩, h4, fun y hy e => ?_⟩
  · rcases (h5 y hy).1.2 with z | z
    · exact absurd e z
    · exact z
  · rcases (h5 y hy).2 with (z | z) | z
    · exact absurd e z
    · exact .inl z
    · exact .inr z
section
variable {X : Cx} {pins : List (Addr × Obj)} {σ : L2.St} {H : Hp} {s s1 : Shared}
theorem LamS1.has {scope : Scope} {x : Str} (L : LamS1 X.env.scope scope x) (ok : X.Ok) : ∀ y ∈ scope.names, y.2 = .free → ∃ c, X.env.cells.lookup y.1 = some c := fun y hy e => by
  rcases L.free y hy e with k | k
  · exact ok.has _ (.inl k)
  · exact ok.has _ (.inr k)
theorem lam_start1 {A : Around} {outer : List Env} {E : XK} {scope : Scope} {x : Str} {i : Nat} {f c' : Addr} {h₁ : Heap} {tk : Nat} {v : V} {u : Value} (I : Inv X pins σ H s) (L : LamS1 X.env.scope scope x) (hN : X.N.Nodup) (hi : X.N[i]? = some x) (rv : RelV v u) (e0 : Env0 X.prog X.w X.K X.mg X.base A outer s H) (hd : A.handled = none)
    (hns : h₁.Ns s.heap.objs.size fun y => ([(x, u)] : List (Str × Value)).reverse.lookup y) (kp : ∀ b o, s.heap.get? b = some o → h₁.get? b = some o) :
    Inv (LamX.lamCx X A outer s H E scope f c') [] (σ.set i (some v)) H { s with heap := h₁, toks := tk } := by
  have hfree := L.has I.ok
  have cm : ∀ {y c}, (cloFrom X.env.cells scope.names []).lookup y = some c → X.env.cells.lookup y = some c := fun {y c} e => by
    rcases cloFrom_mem (PySem.mem_of_lookup e) with hm | ⟨h1, h2⟩
    · cases hm
    · obtain ⟨c1, hc⟩ := hfree _ h1 rfl
      have hc : X.env.cells.lookup y = some c1 := hc
      have e2 : c = c1 := by
        rw [h2, hc] <;> rfl
      rw [e2]
      exact hc
  have look : ∀ {y}, scope.names.lookup y = some .free → ∃ c, (cloFrom X.env.cells scope.names []).lookup y = some c := fun {y} hl => by
    have hy : (y, NameKind.free) ∈ scope.names := PySem.mem_of_lookup hl
    exact mem_lookup (cloFrom_has (cells := X.env.cells) (acc := []) hy)
  have cellK : ∀ {c : Addr} {v : Option Value}, s.heap.IsCell c v → h₁.IsCell c v := fun {c v} ⟨o, ho, hd⟩ => ⟨o, kp _ _ ho, hd⟩
  have noA : ∀ b : Addr, b ∉ (LamX.lamCx X A outer s H E scope f c').ex := fun b z => absurd (show b ∈ ([] : List Addr) from z) (by simp)
  refine ⟨⟨e0.mod, L.kind, rfl, rfl, Nat.le_refl _, fun y z c e1 e2 => I.ok.inj y z c (cm e1) (cm e2), fun y hy => ?_, fun y c z _ => ?_, fun _ => hd, Around.frames_deeper e0.frames, .inr ⟨rfl, rfl⟩, fun b z => absurd z (noA b), e0.bs, e0.bsz, fun b _ _ => noA b,
      fun b z => absurd z (noA b), e0.funs, e0.frf⟩,
    rfl, e0.bare, Un.kept kp, ⟨_, hns, fun j y w e1 e2 e3 => ?_⟩, fun y c e => ?_, e0.hok.fresh (Nat.le_refl _), fun y c e => ?_, fun q hq => absurd (show q ∈ ([] : List (Addr × Obj)) ++ [] from hq) (by simp), e0.hok.kept kp, by rw [List.length_set]; exact I.len⟩
  · have hy : scope.names.lookup y = some .cell ∨ scope.names.lookup y = some .free := hy
    rcases hy with hy | hy
    · exact absurd rfl (L.own _ (PySem.mem_of_lookup hy)).1
    · exact look hy
  · have z : false = true := z
    cases z
  · have e3 : Vis scope y := e3
    rcases e3 with k | k | k
    · have ey : y = x := (L.own _ (PySem.mem_of_lookup k)).2 rfl
      subst ey
      have ej : j = i := nodup_ix hN e1 hi
      subst ej
      have hj : j < σ.length := by rw [I.len]; exact (List.getElem?_eq_some_iff.mp hi).1
      rw [List.getElem?_set_self hj] at e2
      cases e2
      exact ⟨u, rv, .inl ⟨k, by simp⟩⟩
    · exact absurd rfl (L.own _ (PySem.mem_of_lookup k)).1
    · have hne : i ≠ j := fun e => by
        subst e
        have e4 : X.N[i]? = some y := e1
        rw [hi] at e4
        cases e4
        rw [L.par] at k
        cases k
      rw [List.getElem?_set_ne hne] at e2
      obtain ⟨m, hn, hl⟩ := I.loc
      have hvis : Vis X.env.scope y := (L.free _ (PySem.mem_of_lookup k) rfl).elim (fun k => .inr (.inl k)) (fun k => .inr (.inr k))
      obtain ⟨w', r, q⟩ := hl j y w e1 e2 hvis
      obtain ⟨c2, h2⟩ := look k
      refine ⟨w', r, .inr ⟨.inr k, c2, h2, ?_⟩⟩
      have c1 := cm h2
      rcases q with ⟨k', _⟩ | ⟨_, c3, e', z⟩
      · have k' : X.env.scope.names.lookup y = some .local := k'
        rcases L.free _ (PySem.mem_of_lookup k) rfl with k2 | k2 <;> rw [show X.env.scope.names.lookup y = _ from k2] at k' <;> cases k'
      · rw [c1] at e'
        cases e'
        exact cellK z
  · obtain ⟨w', z⟩ := I.cell y c (cm e)
    exact ⟨w', cellK z⟩
  · exact I.freeC y c (cm e)
/-- the lambda called, from a built-in -/
theorem lam_call1 {scope : Scope} {x : Str} {i k : Nat} {f c' : Addr} {pm ctv : Value} {params : Arguments} {body : Expr} {tb : TE} {v : V} {u : Value} {Q : VK} (I : Inv X pins σ H s) (L : LamS1 X.env.scope scope x) (hN : X.N.Nodup) (hi : X.N[i]? = some x) (rv : RelV v u)
    (hf : s.heap.get? f = some (PySem.W.kla_obj "<lambda>" (X.env.qual ++ "<lambda>") params body scope (cloFrom X.env.cells scope.names []) pm c' ctv)) (hco : H c' = some (LamX.CodeO c' (X.env.qual ++ "<lambda>")))
    (hbind : bindArgs (PySem.W.kla_fn "<lambda>" (X.env.qual ++ "<lambda>") params body scope (cloFrom X.env.cells scope.names []) pm (.ref c') ctv) ⟨[u], []⟩ = pure [(x, u)]) (hr : Room (k + 1) X.A.in1)
    (hbody : ∀ (A : Around) (outer : List Env) (s : Shared) (H : Hp) (E : XK), Room k (A.deeper (LamX.lamEnv X scope s.heap.objs.size f c')) → PE (LamX.lamCx X A outer s H E scope f c').nox body tb) (ht : tb (σ.set i (some v)) H Q) :
    wpAny (model X.prog X.w) X.A.in1 (call (.ref f) [u]) (EP X pins σ Q) (fun _ _ => False) s := by
  obtain ⟨⟨oc, vs, t, hoc, hdc, hvc⟩, _, _⟩ := I.hok c' _ hco
  have e0 : Env0 X.prog X.w X.K X.mg X.base X.A.in1 X.stack s H := I.env0.in1
  have rc : codeAny (model X.prog X.w) X.A.in1 (.call (.ref f) ⟨[u], []⟩) (fun r s' => match r with | .ok (.ret w) => CE X.stack X.prog X.w H s Q w s' | _ => False) s := by
    refine PySem.W.kla_callFunE hr.depth hf rfl L.co L.gen rfl ⟨c', oc, vs, t, rfl, hoc, hdc, hvc⟩ ?_
    rw [hbind]
    refine wpAny_pure (wpAny_newFunctionEnv (fun y hy => (L.own y hy).1) (fun y hy => ?_) (fun h₁ hns hsb => ⟨I.nolimit.fresh _ hsb, ?_⟩) L.kind)
    · have : y = (x, u) := by simpa using hy
      rw [this]
      exact L.par
    · show codeAny _ _ (.expr body (LamX.lamEnv X scope s.heap.objs.size f c')) _ _
      have kp : ∀ b o, s.heap.get? b = some o → h₁.get? b = some o := fun b o e => hsb.extBut b o (Nat.ne_of_lt (Heap.lt_size e)) (Heap.get?_push_of_some _ e)
      have J : Inv (LamX.lamCx X X.A.in1 X.stack s H E0 scope f c') [] (σ.set i (some v)) H { s with heap := h₁, toks := s.toks + ([(x, u)] : List (Str × Value)).length } := lam_start1 I L hN hi rv e0 hr.hd hns kp
      refine PySem.W.kla_codeExpr (wpAny_mono ((hbody _ _ s H E0 (hr.deeper _)).run [] _ _ H Q (J.wish _) ht) (fun w s' hq => ?_) fun e s' hq => False.elim hq)
      obtain ⟨w', H', J', r', q⟩ := hq
      exact ⟨w', H', J'.os, J'.bare, J'.base, J'.hok, r', q⟩
  refine wpAny_call (codeAny_mono rc fun r s' hq => ?_)
  cases r with
  | error e => exact hq
  | ok fl =>
    cases fl with
    | ret u => exact I.after hq
    | next => exact False.elim hq
    | brk => exact False.elim hq
    | cont => exact False.elim hq
end
/-! ### min by a key -/
def minKL (key : D → Sto → Rs D) : List D → D → Int → Sto → Rs D
  | [], b, _, S => .ok b S
  | d :: r, b, kb, S => (noX (key d S)).bind fun k S1 => match k with
    | .int k => if k < kb then minKL key r d k S1 else minKL key r b kb S1
    | _ => .bad
def minK (key : D → Sto → Rs D) (ds : List D) (S : Sto) : Rs D := match ds with
  | [] => .bad
  | d :: r => (noX (key d S)).bind fun k S1 => match k with
    | .int k => minKL key r d k S1
    | _ => .bad
section
variable {X : Cx} {W : XW}
/-- the list that the built-in keeps its best in -/
abbrev bestO (u : Value) (k : Int) (t : Tok) (c : Nat) : Obj := PyProof.Rows.seqObj "list" #[u, .int k t] c
theorem minK_loop {pins : List (Addr × Obj)} {σ : L2.St} {E : En} {i n ep : Nat} {f d I0 S0 : Addr} {od of : Obj} {mb : En → Sto → Rs D} {cq : Str} {c' : Addr} {vs : List (Key × Value)} {kws : List (Key × V)} {p0 : List Addr} {H0 : Hp} {QQ : VK} {g0 : Heap}
    (hc : X.calm = true) (hdk : g0.DictAt (mixKind X.prog X.w) d vs ep) (hgd : g0.get? d = some od) (kv : KV kws vs) (hdI : d ≠ I0) (hSI : S0 ≠ I0) (hpf : (f, of) ∈ pins) (hH0 : H0 d = some (.frz od (.dK kws))) (hC0 : H0 c' = some (LamX.CodeO c' cq))
    (key : ∀ (pins' : List (Addr × Obj)) (s : Shared) (H : Hp) (v : V) (u : Value) (Q' : VK), Inv X pins' σ H s → (f, of) ∈ pins' → H c' = some (LamX.CodeO c' cq) → RelV v u → lE (gX X) W0 mb (σ.set i (some v)) H Q' → wpAny (model X.prog X.w) X.A.in1 (call (.ref f) [u]) (EP X pins' σ Q') (fun _ _ => False) s) :
    ∀ (rem : List (Key × V)) (j : Nat) (s : Shared) (H : Hp) (p : List Addr) (S : Sto) (best : D) (bv : V) (bu : Value) (kb : Int) (tb : Tok) (cnt : Nat), kws.drop j = rem → j ≤ kws.length →
      Inv X pins σ H s → FpOk X pins H I0 → FpOk X pins H S0 → s.heap.IsKeyIter I0 d j vs.length ep → s.heap.get? S0 = some (bestO bu kb tb cnt) → RS (gX X) p S H → RE (gX X) p H E σ → Ext (gX X) p0 H0 p H → RD (gX X) p H best bv → RelV bv bu →
      post (gX X) W p0 H0 (minKL (fun d S => mb (E.set i (some d)) S) (rem.map fun kv => kD kv.1) best kb S) (kE (gX X) QQ) →
      codeAny (model X.prog X.w) X.A (.builtin "min.loop" ⟨[.ref I0, .ref f, .ref S0], []⟩) (fun res s' => match res with | .ok (.ret u) => EP X pins σ QQ u s' | _ => False) s := by
  have hname : (toString "min" ++ toString ".loop" : String) = "min.loop" := by decide
  intro rem
  have hlen : kws.length = vs.length := Paired.length kv
  induction rem with
  | nil =>
    intro j s H p S best bv bu kb tb cnt hdrop hj I fI fS hit hS hs he x rb ru q
    have hjn : j = vs.length := by
      have := congrArg List.length hdrop
      simp at this; omega
    subst hjn
    have hdat : s.heap.DictAt (mixKind X.prog X.w) d vs ep := hdk.at' fun o e => by
      rw [hgd] at e; cases e
      obtain ⟨e1, _⟩ := I.hok d _ (x.frz _ _ _ hH0)
      exact e1
    have Wk := Walks.dictKeys (prog := X.prog) (w := X.w) (knd := mixKind X.prog X.w) (A := X.A.in1) (I.ok.hd hc) I0 d hdI vs ep
    refine codeAny_builtin PySem.F.entry_min_loop ?_
    rw [Around.under_plainId PySem.F.plain_min_loop _]
    show wpAny _ X.A.in1 (seqItems? (.ref S0) >>= _) _ _ _
    refine wpAny_bind (wpAny_seqItems hS rfl ?_)
    show wpAny _ X.A.in1 (tryCatch (pyNext (.ref I0)) _ >>= _) _ _ _
    refine wpAny_bind (wpAny_tryCatch (Wk.done _ _ _ ⟨hit, hdat⟩ fun h' tk' hk' => ?_))
    have I1 : Inv X pins σ H { s with heap := h', toks := tk' } := I.turned (fun b o hb e => hk' b o (by simpa using hb) e) fI.1 fI.2.1 fI.2.2.2.1 fI.2.2.2.2.1 fI.2.2.2.2.2
    have hS' := hk' S0 _ (by simpa using hSI) hS
    have s1 := Heap.SameBut.update h' S0 (Obj.mapSeq fun _ => (#[] : Array Value))
    show wpAny _ X.A.in1 (updateSeq S0 (fun _ => #[]) >>= _) _ _ _
    refine wpAny_bind ?_
    refine wpAny_updateSeq hS' rfl (wpAny_bind (wpAny_letGo (wpAny_pure ?_)))
    have I2 : Inv X pins σ H { s with heap := h'.update S0 (Obj.mapSeq fun _ => (#[] : Array Value)), toks := tk' } := I1.turned (t' := tk') (fun b o hb e => (s1.2 b hb).trans e) fS.1 fS.2.1 fS.2.2.2.1 fS.2.2.2.2.1 fS.2.2.2.2.2
    exact ⟨bv, H, I2, ru, q p H x hs bv rb⟩
  | cons hd rem ih =>
    intro j s H p S best bv bu kb tb cnt hdrop hj I fI fS hit hS hs he x rb ru q
    have hlt : j < kws.length := by
      have := congrArg List.length hdrop
      simp at this; omega
    have hget : kws[j]? = some hd := by
      have := congrArg (fun l => l[0]?) hdrop
      simpa using this
    obtain ⟨kk, vv⟩ := hd
    have hdat : s.heap.DictAt (mixKind X.prog X.w) d vs ep := hdk.at' fun o e => by
      rw [hgd] at e; cases e
      obtain ⟨e1, _⟩ := I.hok d _ (x.frz _ _ _ hH0)
      exact e1
    have Wk := Walks.dictKeys (prog := X.prog) (w := X.w) (knd := mixKind X.prog X.w) (A := X.A.in1) (I.ok.hd hc) I0 d hdI vs ep
    refine codeAny_builtin PySem.F.entry_min_loop ?_
    rw [Around.under_plainId PySem.F.plain_min_loop _]
    show wpAny _ X.A.in1 (seqItems? (.ref S0) >>= _) _ _ _
    refine wpAny_bind (wpAny_seqItems hS rfl ?_)
    show wpAny _ X.A.in1 (tryCatch (pyNext (.ref I0)) _ >>= _) _ _ _
    refine wpAny_bind (wpAny_tryCatch (Wk.item j _ _ _ (by omega) ⟨hit, hdat⟩ fun u h' tk' hP hst' hk' => ?_))
    obtain ⟨k2, x2, hv2, hk2⟩ := hP
    have ek : k2 = kk := by
      obtain ⟨w, hw, _⟩ := kv_get kv hget
      rw [hv2] at hw
      cases hw
      rfl
    subst ek
    have ruk : RelV (kV k2) u := relV_key hk2
    have I1 : Inv X pins σ H { s with heap := h', toks := tk' } := I.turned (fun b o hb e => hk' b o (by simpa using hb) e) fI.1 fI.2.1 fI.2.2.2.1 fI.2.2.2.2.1 fI.2.2.2.2.2
    have hS' := hk' S0 _ (by simpa using hSI) hS
    obtain ⟨oI, hoI, hoc, hod⟩ := id hst'.1
    -- the iterator and the list pinned
    have I2 : Inv X (pins ++ pinsAt [I0, S0] h') σ H { s with heap := h', toks := tk' } := I1.pinned (fp := [I0, S0]) (fun b hb => by
      have e' : b = I0 ∨ b = S0 := by simpa using hb
      rcases e' with rfl | rfl
      · exact fI
      · exact fS) (fun b hb => by
      have e' : b = I0 ∨ b = S0 := by simpa using hb
      rcases e' with rfl | rfl
      · exact ⟨oI, hoI, fun w z => by rw [hod] at z; cases z⟩
      · exact ⟨_, hS', fun w z => nomatch z⟩)
    have q1 := post_noX (post_bindB q)
    show wpAny _ X.A.in1 (tryCatch (holding [u] (call (.ref f) [u])) _ >>= _) _ _ _
    refine wpAny_bind (wpAny_tryCatch (wpAny_holding (wpAny_mono (key _ _ H (kV k2) u (fun kvv H2 => ∃ p2 S2 kd, RS (gX X) p2 S2 H2 ∧ Ext (gX X) p H p2 H2 ∧ RD (gX X) p2 H2 kd kvv ∧ post (gX X) W p0 H0 (match kd with
        | .int k => if k < kb then minKL (fun d S => mb (E.set i (some d)) S) (rem.map fun kv => kD kv.1) (kD k2) k S2 else minKL (fun d S => mb (E.set i (some d)) S) (rem.map fun kv => kD kv.1) best kb S2
        | _ => .bad) (kE (gX X) QQ)) I2 (List.mem_append_left _ hpf) (x.tup.cod _ _ hC0) ruk ⟨p, S, E.set i (some (kD k2)), hs, he.set (RD_key k2), post_mono (fun kd S2 p2 H2 x2 hs2 q2 kvv rk => ⟨p2, S2, kd, hs2, x2, rk, q2⟩) (post_base x q1)⟩) (fun kw s2 hq => ?_) fun _ _ hF => hF.elim)))
    obtain ⟨kvv, H2, I3, rkv, p2, S2, kd, hs2, x2, rk, q2⟩ := hq
    cases kd with
    | int kn =>
      obtain rfl : kvv = V.int kn := rk
      obtain ⟨t2, rfl⟩ := rkv
      have pinI := I3.pin (I0, oI) (List.mem_append_right _ (List.mem_append_right _ (mem_pinsAt (by simp) hoI)))
      have pinS := I3.pin (S0, bestO bu kb tb cnt) (List.mem_append_right _ (List.mem_append_right _ (mem_pinsAt (by simp) hS')))
      have I4 : Inv X pins σ H2 s2 := I3.unpinned
      have fI2 : FpOk X pins H2 I0 := ⟨pinI.2.1, fI.2⟩
      have fS2 : FpOk X pins H2 S0 := ⟨pinS.2.1, fS.2⟩
      have hit2 : s2.heap.IsKeyIter I0 d (j + 1) vs.length ep := ⟨oI, pinI.1, hoc, hod⟩
      have x02 := x.trans x2
      show wpAny _ X.A.in1 (tryCatch (holding [u, .int kn t2] (richCompare .Lt (.int kn t2) (.int kb tb) >>= _)) _ >>= _) _ _ _
      refine wpAny_bind (wpAny_tryCatch (wpAny_holding (wpAny_bind (CmpOf.ints_lt (prog := X.prog) (w := X.w) (A := X.A.in1) (P := fun i v => ∃ t, v = .int (if i = 0 then kn else kb) t) (fun i => if i = 0 then kn else kb) (fun i v h => h) 0 1 _ _ _ _ _ ⟨t2, rfl⟩ ⟨tb, rfl⟩ ?_))))
      refine wpAny_bind (wpAny_holding (wpAny_truthy_bool ?_))
      refine wpAny_bind (wpAny_letGo (wpAny_pure ?_))
      simp only at q2
      by_cases hb' : kn < kb
      · have s1 := Heap.SameBut.update s2.heap S0 (Obj.mapSeq fun _ => #[u, .int kn t2])
        obtain ⟨c2, hc2⟩ : ∃ c2, (s2.heap.update S0 (Obj.mapSeq fun _ => #[u, .int kn t2])).get? S0 = some (bestO u kn t2 c2) := ⟨_, PyProof.Rows.get?_update_seq pinS.1 fun _ => #[u, .int kn t2]⟩
        rw [if_pos hb'] at q2
        simp only [hb', Nat.one_ne_zero, decide_true, if_true, if_false]
        refine wpAny_bind ?_
        refine wpAny_updateSeq pinS.1 rfl (wpAny_bind (wpAny_letGo ?_))
        rw [hname]
        have I5 : Inv X pins σ H2 { s2 with heap := s2.heap.update S0 (Obj.mapSeq fun _ => #[u, .int kn t2]) } := I4.turned (t' := s2.toks) (fun b o hb e => (s1.2 b hb).trans e) fS2.1 fS2.2.1 fS2.2.2.2.1 fS2.2.2.2.2.1 fS2.2.2.2.2.2
        refine wpAny_pure ⟨plainId_quiet PySem.F.plain_min_loop _, ih (j + 1) _ H2 p2 S2 (kD k2) (kV k2) u kn t2 c2 ?_ hlt I5 fI2 fS2 ⟨oI, (s1.2 I0 (Ne.symm hSI)).trans pinI.1, hoc, hod⟩ hc2 hs2 (he.mono x2.pre x2.tup) x02 (RD_key k2) ruk q2⟩
        have := congrArg List.tail hdrop
        simpa using this
      · rw [if_neg hb'] at q2
        simp only [hb', Nat.one_ne_zero, decide_false, Bool.false_eq_true, if_true, if_false]
        refine wpAny_bind (wpAny_letGo ?_)
        rw [hname]
        refine wpAny_pure ⟨plainId_quiet PySem.F.plain_min_loop _, ih (j + 1) _ H2 p2 S2 best bv bu kb tb cnt ?_ hlt I4 fI2 fS2 hit2 pinS.1 hs2 (he.mono x2.pre x2.tup) x02 (rb.mono x2.pre x2.tup) ru q2⟩
        have := congrArg List.tail hdrop
        simpa using this
    | _ => exact q2.elim
end
end M

namespace M
open PySem L2 PySem.Spec
section
variable {X : Cx} {W : XW}
/-- min(d, key=f), d a locked dict -/
theorem minK_call {pins : List (Addr × Obj)} {s : Shared} {σ : L2.St} {H : Hp} {E : En} {i : Nat} {f d : Addr} {od of : Obj} {mb : En → Sto → Rs D} {cq : Str} {c' : Addr} {kws : List (Key × V)} {p : List Addr} {S : Sto} {QQ : VK}
    (hc : X.calm = true) (I : Inv X pins σ H s) (hpf : (f, of) ∈ pins) (hd : H d = some (.frz od (.dK kws))) (hC : H c' = some (LamX.CodeO c' cq)) (hs : RS (gX X) p S H) (he : RE (gX X) p H E σ)
    (key : ∀ (pins' : List (Addr × Obj)) (s : Shared) (H : Hp) (v : V) (u : Value) (Q' : VK), Inv X pins' σ H s → (f, of) ∈ pins' → H c' = some (LamX.CodeO c' cq) → RelV v u → lE (gX X) W0 mb (σ.set i (some v)) H Q' → wpAny (model X.prog X.w) X.A.in1 (call (.ref f) [u]) (EP X pins' σ Q') (fun _ _ => False) s)
    (q : post (gX X) W p H (minK (fun d S => mb (E.set i (some d)) S) (kws.map fun kv => kD kv.1) S) (kE (gX X) QQ)) :
    wpAny (model X.prog X.w) X.A (call (.builtin "min") [.ref d] [(Str.ofString "key", .ref f)]) (EP X pins σ QQ) X.xe s := by
  have hname : (toString "min" ++ toString ".loop" : String) = "min.loop" := by decide
  obtain ⟨hsys, hgd, hx, es, ep, vs, hdt, hsz, kv, hm⟩ := I.frzK hd
  have hlen : kws.length = vs.length := Paired.length kv
  refine PyProof.Rows.kmk_tree PySem.F.kind_min PySem.F.plain_min PySem.F.entry_min (PyProof.Rows.kmk_min_key _ _) ?_
  show wpAny _ X.A.in1 (Builtin.Builtins.bindParams "min" ["key", "default"] 0 ⟨[], [(Str.ofString "key", .ref f)]⟩ >>= _) _ _ s
  refine wpAny_bind (wpAny_of_eq (show Builtin.Builtins.bindParams "min" ["key", "default"] 0 ⟨[], [(Str.ofString "key", .ref f)]⟩ = pure [some (.ref f), none] from rfl) ?_)
  refine wpAny_bind (wpAny_pure ?_)
  refine wpAny_bind (iter_keys hsys hgd hx hdt ?_)
  refine wpAny_bind (wpAny_newList ?_ (Nat.zero_le _))
  rw [hname]
  have hdlt : d < s.heap.objs.size := Heap.lt_size hgd
  have hdI : d ≠ s.heap.objs.size := Nat.ne_of_lt hdlt
  generalize hoI : ({ cls := .type "dict_keyiterator", data := .fields #[.ref d, .int 0 0, .int es.size 0, .int ep 0] } : Obj) = oI0
  have hS0 : (s.heap.push oI0).objs.size = s.heap.objs.size + 1 := Heap.size_push ..
  have hSI : (s.heap.push oI0).objs.size ≠ s.heap.objs.size := by rw [hS0]; exact Nat.succ_ne_self _
  have Ia : Inv X pins σ H { s with heap := (s.heap.push oI0).push (PyProof.Rows.seqObj "list" #[] 0) } := I.kept (t' := s.toks) fun b o e => Heap.get?_push_of_some _ (Heap.get?_push_of_some _ e)
  have fI : FpOk X pins H s.heap.objs.size := I.fpOk (Nat.le_refl _) (I.hok.fresh (Nat.le_refl _))
  have fS : FpOk X pins H (s.heap.push oI0).objs.size := I.fpOk (by rw [hS0]; exact Nat.le_succ _) (I.hok.fresh (by rw [hS0]; exact Nat.le_succ _))
  refine wpAny_pure ⟨plainId_quiet PySem.F.plain_min_loop _, ?_⟩
  have gI : ((s.heap.push oI0).push (PyProof.Rows.seqObj "list" #[] 0)).get? s.heap.objs.size = some oI0 := Heap.get?_push_of_some _ (Heap.get?_push_size _ (by rw [← hoI]; rfl))
  have gS : ((s.heap.push oI0).push (PyProof.Rows.seqObj "list" #[] 0)).get? (s.heap.push oI0).objs.size = some (PyProof.Rows.seqObj "list" #[] 0) := Heap.get?_push_size _ rfl
  have hit : ((s.heap.push oI0).push (PyProof.Rows.seqObj "list" #[] 0)).IsKeyIter s.heap.objs.size d 0 vs.length ep := by
    refine ⟨oI0, gI, by rw [← hoI], ?_⟩
    rw [← hoI, ← hlen, ← hsz]
    rfl
  have hdat : ((s.heap.push oI0).push (PyProof.Rows.seqObj "list" #[] 0)).DictAt (mixKind X.prog X.w) d vs ep := hm.keep fun b o e => Heap.get?_push_of_some _ (Heap.get?_push_of_some _ e)
  generalize (s.heap.push oI0).push (PyProof.Rows.seqObj "list" #[] 0) = hA at *
  generalize (s.heap.push oI0).objs.size = S0 at *
  generalize s.heap.objs.size = I0 at *
  -- the first item
  cases kws with
  | nil => exact q.elim
  | cons kw0 rem =>
    obtain ⟨kk, vv⟩ := kw0
    have Wk := Walks.dictKeys (prog := X.prog) (w := X.w) (knd := mixKind X.prog X.w) (A := X.A.in1) (I.ok.hd hc) I0 d hdI vs ep
    refine codeAny_mono (R := fun res s' => match res with | .ok (.ret u) => EP X pins σ QQ u s' | _ => False) ?_ fun res s' h => ?_
    · refine codeAny_builtin PySem.F.entry_min_loop ?_
      rw [Around.under_plainId PySem.F.plain_min_loop _]
      show wpAny _ X.A.in1 (seqItems? (.ref S0) >>= _) _ _ _
      refine wpAny_bind (wpAny_seqItems gS rfl ?_)
      show wpAny _ X.A.in1 (tryCatch (pyNext (.ref I0)) _ >>= _) _ _ _
      refine wpAny_bind (wpAny_tryCatch (Wk.item 0 _ _ _ (by rw [← hlen]; exact Nat.succ_pos _) ⟨hit, hdat⟩ fun u h' tk' hP hst' hk' => ?_))
      obtain ⟨k2, x2, hv2, hk2⟩ := hP
      have ek : k2 = kk := by
        obtain ⟨w, hw, _⟩ := kv_get (i := 0) (k := kk) (v := vv) kv rfl
        rw [hv2] at hw
        cases hw
        rfl
      subst ek
      have ruk : RelV (kV k2) u := relV_key hk2
      have I1 : Inv X pins σ H { s with heap := h', toks := tk' } := Ia.turned (fun b o hb e => hk' b o (by simpa using hb) e) fI.1 fI.2.1 fI.2.2.2.1 fI.2.2.2.2.1 fI.2.2.2.2.2
      have hS' := hk' S0 _ (by simpa using hSI) gS
      obtain ⟨oI, hoI2, hoc, hod⟩ := id hst'.1
      have I2 : Inv X (pins ++ pinsAt [I0, S0] h') σ H { s with heap := h', toks := tk' } := I1.pinned (fp := [I0, S0]) (fun b hb => by
        have e' : b = I0 ∨ b = S0 := by simpa using hb
        rcases e' with rfl | rfl
        · exact fI
        · exact fS) (fun b hb => by
        have e' : b = I0 ∨ b = S0 := by simpa using hb
        rcases e' with rfl | rfl
        · exact ⟨oI, hoI2, fun w z => by rw [hod] at z; cases z⟩
        · exact ⟨_, hS', fun w z => nomatch z⟩)
      have q1 := post_noX (post_bindB q)
      show wpAny _ X.A.in1 (tryCatch (holding [u] (call (.ref f) [u])) _ >>= _) _ _ _
      refine wpAny_bind (wpAny_tryCatch (wpAny_holding (wpAny_mono (key _ _ H (kV k2) u (fun kvv H2 => ∃ p2 S2 kd, RS (gX X) p2 S2 H2 ∧ Ext (gX X) p H p2 H2 ∧ RD (gX X) p2 H2 kd kvv ∧ post (gX X) W p H (match kd with
          | .int k => minKL (fun d S => mb (E.set i (some d)) S) (rem.map fun kv => kD kv.1) (kD k2) k S2
          | _ => .bad) (kE (gX X) QQ)) I2 (List.mem_append_left _ hpf) hC ruk ⟨p, S, E.set i (some (kD k2)), hs, he.set (RD_key k2), post_mono (fun kd S2 p2 H2 x2 hs2 q2 kvv rk => ⟨p2, S2, kd, hs2, x2, rk, q2⟩) q1⟩) (fun kw s2 hq => ?_) fun _ _ hF => hF.elim)))
      obtain ⟨kvv, H2, I3, rkv, p2, S2, kd, hs2, x2, rk, q2⟩ := hq
      cases kd with
      | int kn =>
        obtain rfl : kvv = V.int kn := rk
        obtain ⟨t2, rfl⟩ := rkv
        have pinI := I3.pin (I0, oI) (List.mem_append_right _ (List.mem_append_right _ (mem_pinsAt (by simp) hoI2)))
        have pinS := I3.pin (S0, PyProof.Rows.seqObj "list" #[] 0) (List.mem_append_right _ (List.mem_append_right _ (mem_pinsAt (by simp) hS')))
        have I4 : Inv X pins σ H2 s2 := I3.unpinned
        have fI2 : FpOk X pins H2 I0 := ⟨pinI.2.1, fI.2⟩
        have fS2 : FpOk X pins H2 S0 := ⟨pinS.2.1, fS.2⟩
        have s1 := Heap.SameBut.update s2.heap S0 (Obj.mapSeq fun _ => #[u, .int kn t2])
        obtain ⟨c2, hc2⟩ : ∃ c2, (s2.heap.update S0 (Obj.mapSeq fun _ => #[u, .int kn t2])).get? S0 = some (bestO u kn t2 c2) := ⟨_, PyProof.Rows.get?_update_seq pinS.1 fun _ => #[u, .int kn t2]⟩
        show wpAny _ X.A.in1 (updateSeq S0 (fun _ => #[u, .int kn t2]) >>= _) _ _ _
        refine wpAny_bind ?_
        refine wpAny_updateSeq pinS.1 rfl ?_
        rw [hname]
        have I5 : Inv X pins σ H2 { s2 with heap := s2.heap.update S0 (Obj.mapSeq fun _ => #[u, .int kn t2]) } := I4.turned (t' := s2.toks) (fun b o hb e => (s1.2 b hb).trans e) fS2.1 fS2.2.1 fS2.2.2.2.1 fS2.2.2.2.2.1 fS2.2.2.2.2.2
        simp only at q2
        refine wpAny_pure ⟨plainId_quiet PySem.F.plain_min_loop _, minK_loop (n := 0) (QQ := QQ) (W := W) (p0 := p) (H0 := H) (E := E) (i := i) hc hm hgd kv hdI hSI hpf hd hC key rem 1 _ H2 p2 S2 (kD k2) (kV k2) u kn t2 c2 rfl (Nat.succ_le_succ (Nat.zero_le _)) I5 fI2 fS2 ⟨oI, (s1.2 I0 (Ne.symm hSI)).trans pinI.1, hoc, hod⟩ hc2 hs2 (he.mono x2.pre x2.tup) x2 (RD_key k2) ruk q2⟩
      | _ => exact q2.elim
    · cases res with
      | error e => exact h.elim
      | ok fl =>
        cases fl with
        | ret u => exact h
        | next => exact h.elim
        | brk => exact h.elim
        | cont => exact h.elim

/-! ### min(e, key=lambda x: body) -/
/-- the tables of the store -/
def tabsOf (S : Sto) : List (Addr × Str) := S.filterMap fun o => match o with
  | .tb P q => some (P, q)
  | _ => none
theorem tabs_of {K : KX} {p : List Addr} {S : Sto} {H : Hp} (hs : RS K p S H) : LamX.Tabs (tabsOf S) H := fun x hx => by
  obtain ⟨o, ho, e⟩ := List.mem_filterMap.mp hx
  obtain ⟨n, hn, en⟩ := List.getElem_of_mem ho
  have eS : S[n]? = some o := by rw [← en]; simp [hn]
  obtain ⟨a, ea⟩ := hs.lt eS
  obtain ⟨y, ey, ry⟩ := hs.get n a o ea eS
  cases o with
  | tb P q =>
    cases e
    obtain ⟨rfl, ps, rfl, h1, h2⟩ := ry
    exact ⟨ps, ey, h1, h2⟩
  | _ => cases e
/-- what the making of a lambda leaves of the store -/
theorem lam_rs {K : KX} {p : List Addr} {S : Sto} {H H1 : Hp} (hs : RS K p S H) (eN : LamX.ExtN H H1) (T1 : LamX.Tabs (tabsOf S) H1) : RS K p S H1 ∧ Ext K p H p H1 := by
  have kp : Keep K H H1 := Keep.of fun b o e hsf => eN b o e fun ps z => by subst z; exact hsf (.inl rfl)
  refine ⟨⟨hs.len, hs.nd, fun n a o ea eS => ?_⟩, Pre.refl _, kp, fun a o h1 h2 h3 => ⟨h1, eN a o h2 h3⟩, fun a o u h => eN a _ h fun _ z => by cases z⟩
  obtain ⟨y, ey, ry⟩ := hs.get n a o ea eS
  cases o with
  | tb P q =>
    obtain ⟨rfl, ps, rfl, _⟩ := ry
    obtain ⟨ps', h1, h2, h3⟩ := T1 (a, q) (List.mem_filterMap.mpr ⟨_, List.mem_of_getElem? eS, rfl⟩)
    exact ⟨_, h1, rfl, ps', rfl, h2, h3⟩
  | lst ds =>
    have hy : ∀ ps, y ≠ .tbl ps := fun ps z => by
      subst z
      obtain ⟨vs, e, _⟩ := ry
      cases e
    exact ⟨y, eN a y ey hy, ry.mono (Pre.refl _) kp⟩
  | dk kvs =>
    have hy : ∀ ps, y ≠ .tbl ps := fun ps z => by
      subst z
      obtain ⟨vs, e, _⟩ := ry
      cases e
    exact ⟨y, eN a y ey hy, ry.mono (Pre.refl _) kp⟩
  | fd kvs =>
    have hy : ∀ ps, y ≠ .tbl ps := fun ps z => by
      subst z
      obtain ⟨ob, vs, e, _⟩ := ry
      cases e
    exact ⟨y, eN a y ey hy, ry.mono (Pre.refl _) kp⟩
  | dn kvs =>
    refine ⟨y, eN a y ey (fun ps z => ?_), ry.mono (Pre.refl _) kp⟩
    subst z
    obtain ⟨vs, e, _⟩ := ry
    cases e
  | fn kvs =>
    refine ⟨y, eN a y ey (fun ps z => ?_), ry.mono (Pre.refl _) kp⟩
    subst z
    obtain ⟨ob, vs, e, _⟩ := ry
    cases e
  | ex c fs =>
    refine ⟨y, eN a y ey (fun ps z => ?_), ry.mono (Pre.refl _) kp⟩
    subst z
    obtain ⟨d, e, _⟩ := ry
    cases e
def keysOf (S : Sto) (d : D) : Option (Nat × List (Key × D)) := match d with
  | .ref n => match S[n]? with
    | some (.dk kvs) => some (n, kvs)
    | _ => none
  | _ => none
def mMinKey (P : Addr) (q : Str) (ti i : Nat) (m mb : En → Sto → Rs D) : En → Sto → Rs D := fun E S => (m E S).bind fun d S1 => match S1[ti]? with
  | some (.tb P' q') => if P' = P ∧ q' = q then (match keysOf S1 d with
    | some (n, kvs) => (minK (fun d S => mb (E.set i (some d)) S) (kvs.map fun kv => kD kv.1) (S1.set n (.fd kvs))).bind fun b S2 => unl (some n) b S2
    | none => .bad) else .bad
  | _ => .bad
theorem me_minKey {e body : Expr} {params : Arguments} {scope : Scope} {x : Str} {i ti k : Nat} {P c : Addr} {m mb : En → Sto → Rs D} {pp pos lpos kpos : Pos} (hc : X.calm = true) (hg : Gl X "min") (hm : X.mg "min" = none) (he : ME X W e m) (TB : LamX.TabB X.base X.mg c P) (hcode : X.env.code = .ref c) (L : LamS1 X.env.scope scope x) (hN : X.N.Nodup) (hi : X.N[i]? = some x)
    (hdef : defaultsOf params X.env = ([], [])) (hbind : ∀ (q : Str) (cl : List (Str × Addr)) (pm cv ctv u : Value), bindArgs (PySem.W.kla_fn "<lambda>" q params body scope cl pm cv ctv) ⟨[u], []⟩ = pure [(x, u)]) (hr : Room (k + 1) X.A.in1)
    (hbody : ∀ (A : Around) (outer : List Env) (s : Shared) (H : Hp) (E : XK) (f c' : Addr), Room k (A.deeper (LamX.lamEnv X scope s.heap.objs.size f c')) → ME (LamX.lamCx X A outer s H E scope f c').nox W0 body mb)
    (hst : starEach [e] X.env = [(false, eval e X.env)] := by rfl) (hkw : (keywordEach [⟨some "key", .Lambda params body scope lpos, kpos⟩] X.env) = [(some (Str.ofString "key"), eval (.Lambda params body scope lpos) X.env)] := by rfl) :
    ME X W (.Call (.Name "min" pp) [e] [⟨some "key", .Lambda params body scope lpos, kpos⟩] pos) (mMinKey P (X.env.qual ++ "<lambda>") ti i m mb) := by
  refine ⟨fun pins s σ H Q I q => ?_⟩
  obtain ⟨p, S, E, hs, hE, q⟩ := q
  refine wpAny_Call_Name_kw (ld_blt I hg hm PyProof.Rows.boot_min ?_)
  refine PyProof.Rows.callWith_kw (thn ((pa_cons he pa_nil hst).run pos pins s σ H (fun vs H1 => ∃ v p1 S1 d, vs = [v] ∧ RS (gX X) p1 S1 H1 ∧ Ext (gX X) p H p1 H1 ∧ RD (gX X) p1 H1 d v ∧ post (gX X) W p1 H1 (match S1[ti]? with
      | some (.tb P' q') => if P' = P ∧ q' = X.env.qual ++ "<lambda>" then (match keysOf S1 d with
        | some (n, kvs) => (minK (fun d S => mb (E.set i (some d)) S) (kvs.map fun kv => kD kv.1) (S1.set n (.fd kvs))).bind fun b S2 => unl (some n) b S2
        | none => .bad) else .bad
      | _ => .bad) (kE (gX X) Q)) I ⟨p, S, E, hs, hE, post_mono (fun d S1 p1 H1 x1 hs1 q1 v rv => ⟨v, p1, S1, d, rfl, hs1, x1, rv, q1⟩) (post_bind q)⟩) fun us s1 ⟨vs, H1, I1, r1, v, p1, S1, d, e1, hs1, x1, rv, q1⟩ => ?_) (by rw [hst]; rfl) (by rw [hst]; rfl) rfl rfl
  subst e1
  obtain ⟨u, rfl, ru⟩ := vals1 r1
  show wpAny _ _ (evalAll ((do let v ← eval (.Lambda params body scope lpos) X.env; standAt pos; pure v) :: [])) _ _ s1
  split at q1
  · rename_i P' q' ht
    split at q1
    · rename_i hPq
      obtain ⟨rfl, rfl⟩ := hPq
      split at q1
      · rename_i n kvs hk
        have hmT : (P', X.env.qual ++ "<lambda>") ∈ tabsOf S1 := List.mem_filterMap.mpr ⟨_, List.mem_of_getElem? ht, rfl⟩
        have hu : ∀ x ∈ tabsOf S1, x.1 = P' → x.2 = X.env.qual ++ "<lambda>" := fun x hx ex => by
          obtain ⟨o, ho, e⟩ := List.mem_filterMap.mp hx
          obtain ⟨m', hm', em⟩ := List.getElem_of_mem ho
          have eS : S1[m']? = some o := by rw [← em]; simp [hm']
          cases o with
          | tb P2 q2 =>
            cases e
            obtain ⟨a, ea⟩ := hs1.lt eS
            obtain ⟨y, ey, rfl, _⟩ := hs1.get m' a _ ea eS
            obtain ⟨b, eb⟩ := hs1.lt ht
            obtain ⟨z, ez, rfl, _⟩ := hs1.get ti b _ eb ht
            have eab : a = b := ex
            subst eab
            obtain ⟨h1, q1'⟩ := List.getElem?_eq_some_iff.mp ea
            obtain ⟨h2, q2'⟩ := List.getElem?_eq_some_iff.mp eb
            have : m' = ti := (List.getElem_inj hs1.nd).mp (q1'.trans q2'.symm)
            subst this
            rw [ht] at eS
            cases eS
            rfl
          | _ => cases e
        refine wpAny_evalAll_cons (wpAny_bind (LamX.lam_make2 I1 TB hcode hmT hu (tabs_of hs1) hdef (L.has I1.ok) fun f c' pm ctv H2 s2 I2 eN T2 hf hfn hfr hco => wpAny_bind (wpAny_standAt (wpAny_pure (wpAny_evalAll_nil ?_)))))
        show wpAny _ _ (call (.builtin "min") [u] [(Str.ofString "key", .ref f)]) _ _ s2
        obtain ⟨hs2, x2⟩ := lam_rs hs1 eN T2
        unfold keysOf at hk
        split at hk
        · rename_i n'
          split at hk
          · rename_i kvs' hd'
            cases hk
            obtain ⟨a, ea, rfl⟩ := rv
            obtain rfl : u = Value.ref a := ru
            obtain ⟨y, ey, ws, rfl, rk⟩ := hs2.get n a _ ea hd'
            obtain ⟨od, I3⟩ := I2.lock ey True.intro
            have hno := I2.nofrz ey True.intro
            have lk : Lk X p1 H2 S1 (some n) (upd H2 a (.frz od (.dK ws))) (S1.set n (.fd kvs)) := .some ea ey hno hd' rk
            have hs3 := lk.rs hs2
            have x3 := lk.ext
            have x03 := x2.trans x3
            have hE3 : RE (gX X) p1 (upd H2 a (.frz od (.dK ws))) E σ := ((hE.mono x1.pre x1.tup).mono x2.pre x2.tup).mono x3.pre x3.tup
            -- the lambda's object pinned
            have nL : f ≠ X.env.locals := fun z => by
              obtain ⟨m0, ⟨o', es, ep, ho', hd0, _⟩, _⟩ := I3.loc
              rw [← z, hf] at ho'
              cases ho'
              cases hd0
            have nfs : f ∉ X.fs := fun z => hfr (by
              rcases I3.ok.stk with e | ⟨e, _⟩
              · rw [e]; exact z
              · rw [e]
                unfold frs
                rw [List.filterMap_cons]
                split
                · exact z
                · exact List.mem_cons_of_mem _ z)
            have nfa : f ≠ a := fun z => by rw [z, ey] at hfn; cases hfn
            have hfn3 : upd H2 a (.frz od (.dK ws)) f = none := by rw [upd_ne nfa]; exact hfn
            have I4 : Inv X (pins ++ [(f, PySem.W.kla_obj "<lambda>" (X.env.qual ++ "<lambda>") params body scope (cloFrom X.env.cells scope.names []) pm c' ctv)]) σ (upd H2 a (.frz od (.dK ws))) s2 := I3.pins_of fun x hx => by
              rcases List.mem_append.mp hx with hx | hx
              · exact I3.pin x (List.mem_append_right _ hx)
              · have e' := List.mem_singleton.mp hx
                subst e'
                exact ⟨hf, hfn3, nL, nfs, fun w z => nomatch z⟩
            have hco3 : upd H2 a (.frz od (.dK ws)) c' = some (LamX.CodeO c' (X.env.qual ++ "<lambda>")) := x3.tup.cod _ _ hco
            have ekeys : (kvs.map fun kv => kD kv.1) = ws.map fun kv => kD kv.1 := by
              have := congrArg (List.map kD) rk.1
              rw [List.map_map, List.map_map] at this
              exact this
            have q2 := post_bindB q1
            rw [ekeys] at q2
            have fin : wpAny (model X.prog X.w) X.A (call (.builtin "min") [.ref a] [(Str.ofString "key", .ref f)]) (EP X (pins ++ [(f, PySem.W.kla_obj "<lambda>" (X.env.qual ++ "<lambda>") params body scope (cloFrom X.env.cells scope.names []) pm c' ctv)]) σ (fun v H' => ∃ H4, Un X H' H4 ∧ Q v H4)) X.xe s2 := by
              refine minK_call (W := W) (i := i) (mb := mb) (p := p1) (S := S1.set n (.fd kvs)) (E := E) hc I4 (List.mem_append_right _ (List.mem_singleton.mpr rfl)) upd_same hco3 hs3 hE3 (fun pins' s' H' v' u' Q' I' hp' hC' rv' hq' => ?_) (post_mono (fun b S5 p5 H5 x5 hs5 q5 w rw' => ?_) (post_base x03 q2))
              · refine lam_call1 (i := i) (k := k) I' L hN hi rv' (I'.pin _ (List.mem_append_right _ hp')).1 hC' (hbind _ _ _ _ _ _) hr (fun A outer s H E hr' => hbody A outer s H E f c' hr') hq'
              · obtain ⟨H7, S7, un, x7, hs7, k7, q7⟩ := unl_read lk x5 hs5 (post_base x2 q5)
                exact ⟨H7, un, q7 w (rw'.mono (Pre.refl _) k7)⟩
            refine thn fin fun w s3 ⟨x, H5, I5, r5, H7, un, q7⟩ => ⟨x, H7, un.inv (I5.pins_of fun y hy => I5.pin y (List.mem_append_right _ (List.mem_append_left _ hy))), r5, q7⟩
          · cases hk
        · cases hk
      · exact q1.elim
    · exact q1.elim
  · exact q1.elim
end
end M

namespace M
open PySem L2 PySem.Spec
section
variable {X : Cx} {W : XW}
/-! ### d.values() as a value; max, min of it -/
def ViewO (a d : Addr) : HO := .ext fun h => h.get? a = some { cls := .type "dict_values", data := .fields #[.ref d] }
theorem pe_view {e : Expr} {td : TE} {apos cpos : Pos} (he : PE X e td) (hbase : attributeBase e "values" X.env (eval e X.env) = eval e X.env := by rfl) (hline : (apos.endLine == cpos.line) = true := by rfl) :
    PE X (.Call (.Attribute e "values" apos) [] [] cpos) (fun σ H Q => td σ H fun x H1 => ∃ d kvs, x = .ref d ∧ Rd H1 d (.dK kvs) ∧ ∀ a, H1 a = none → Q (.ref a) (upd H1 a (ViewO a d))) := by
  refine ⟨fun pins s σ H Q I h => ?_⟩
  refine wpAny_Call_method (T := "dict") (id := "dict.values") hbase rfl hline F.plainAttrs_dict F.slot_dict_values F.type_dict_values (thn (he.run pins s σ H _ I h) fun u s1 ⟨x, H1, I1, rx, d, kvs, ex, hd, q⟩ => ?_)
  subst ex
  obtain rfl : u = Value.ref d := rx
  obtain ⟨z, hs, vs, kv, hm⟩ := dk_rd I1.hok hd
  refine ⟨hm.typeIs, hm.mapOf.noDict, ?_⟩
  have hn : H1 s1.heap.objs.size = none := I1.hok.fresh (Nat.le_refl _)
  have g : (s1.heap.push { cls := .type "dict_values", data := .fields #[.ref d] }).get? s1.heap.objs.size = some { cls := .type "dict_values", data := .fields #[.ref d] } := Heap.get?_push_size _ rfl
  have I2 : Inv X pins σ (upd H1 s1.heap.objs.size (ViewO s1.heap.objs.size d)) { s1 with heap := s1.heap.push { cls := .type "dict_values", data := .fields #[.ref d] } } := I1.laid (t' := s1.toks) (fun b ob q => Heap.get?_push_of_some _ q) (Nat.le_refl _)
    ⟨g, ⟨_, g⟩, fun h1 h2 e1 k => k _ e1⟩
  have fin : EP X pins σ Q (.ref s1.heap.objs.size) { s1 with heap := s1.heap.push { cls := .type "dict_values", data := .fields #[.ref d] } } := ⟨.ref s1.heap.objs.size, _, I2, rfl, q _ hn⟩
  show wpAny _ _ (callWith cpos (.builtin "dict.values") [.ref d] [] []) _ X.xe s1
  exact method_meetsIn F.slot_dict_values F.entry_dict_values rfl (PySem.evalArgs_none ⟨rfl, hm.typeIs, F.args_dict_values_1 _, _, meets_dict_values (mixKind X.prog X.w) d hs, ⟨vs, hm⟩, fin⟩)
def rMaxV : List V → Hp → VK → Prop := fun xs H Q => ∃ a d kvs ns, xs = [.ref a] ∧ H a = some (ViewO a d) ∧ Rd H d (.dK kvs) ∧ kvs.map (·.2) = List.map V.int ns ∧ 0 < ns.length ∧ ∀ m, m ∈ ns → (∀ y, y ∈ ns → y ≤ m) → Q (.int m) H
theorem cr_maxV (hc : X.calm = true) : CallR X (.builtin "max") rMaxV := by
  intro pins s σ H xs us Q I r h
  obtain ⟨a, d, kvs, ns, rfl, ha, hd, hns, hpos, q⟩ := h
  rw [Vals.ref1 r]
  obtain ⟨z, hs, vs, kv, hm0⟩ := dk_rd I.hok hd
  obtain ⟨ep, hm⟩ := hm0.dictAt
  obtain ⟨hv, _, _⟩ := I.hok a _ ha
  have hlen : kvs.length = vs.length := Paired.length kv
  have hln : kvs.length = ns.length := by have := congrArg List.length hns; simpa using this
  obtain ⟨od, hod, _⟩ := id hm
  have hdl : d < s.heap.objs.size := by
    obtain ⟨o, es, ho, _⟩ := hm
    exact Heap.lt_size ho
  have val : ∀ i v, (∃ k, vs[i]? = some (k, v)) → ∃ t, v = Value.int (ns.getD i 0) t := fun i v ⟨k, hk⟩ => by
    have hi : i < kvs.length := by rw [hlen]; exact (List.getElem?_eq_some_iff.mp hk).1
    have e0 : kvs[i]? = some (kvs[i].1, kvs[i].2) := by simp [hi]
    obtain ⟨u, hu, ru⟩ := kv_get kv e0
    rw [hk] at hu
    cases hu
    have e1 : (kvs.map (·.2))[i]? = some kvs[i].2 := by rw [List.getElem?_map, e0]; rfl
    rw [hns, List.getElem?_map] at e1
    cases hq : ns[i]? with
    | none => rw [hq] at e1; cases e1
    | some n =>
      rw [hq] at e1
      have e2 : V.int n = kvs[i].2 := by simpa using e1
      rw [← e2] at ru
      obtain ⟨t, rfl⟩ := ru
      exact ⟨t, by simp [hq]⟩
  refine call_max_walk (wpAny_pyIter_values (d := d) (knd := mixKind X.prog X.w) ⟨_, hv, rfl, rfl⟩ hm ?_)
  have hdI : d ≠ s.heap.objs.size := Nat.ne_of_lt hdl
  refine ⟨_, _, _, _, _, _, _, rfl, Walks.dictValues (prog := X.prog) (w := X.w) (knd := mixKind X.prog X.w) (A := X.A.in1) (I.ok.hd hc) s.heap.objs.size d hdI vs ep, ⟨⟨_, Heap.get?_push_size _ rfl, rfl, rfl⟩, hm.keep fun b o e => Heap.get?_push_of_some _ e⟩, fun b hb => ?_, by omega, CmpOf.ints_gt (fun i => ns.getD i 0) val, fun v h' tk hP hk => ?_⟩
  · show b < (s.heap.push _).objs.size
    rw [Heap.size_push]
    have e' : b = s.heap.objs.size ∨ b = d := by simpa using hb
    rcases e' with rfl | rfl
    · exact Nat.lt_succ_self _
    · exact Nat.lt_succ_of_lt hdl
  · obtain ⟨t, rfl⟩ := val _ _ hP
    obtain ⟨h1, h2⟩ := argBest_gt (fun i => ns.getD i 0) (vs.length - 1)
    refine ⟨.int _, H, I.kept fun b o e => hk b o (fun hm => ?_) (Heap.get?_push_of_some _ e), ⟨t, rfl⟩, q _ ?_ fun y hy => ?_⟩
    · have : b = s.heap.objs.size := by simpa using hm
      rw [this] at e
      exact Nat.lt_irrefl _ (Heap.lt_size e)
    · exact PySem.getD_mem (by omega)
    · obtain ⟨j, hj, rfl⟩ := mem_getD hy
      exact h2 j (by omega)
/-- max(d.values()) -/
def fMaxV (d : D) (S : Sto) : Rs D := match d with
  | .ref n => match S[n]? with
    | some (.dk kvs) => fMax (kvs.map (·.2)) S
    | some (.fd kvs) => fMax (kvs.map (·.2)) S
    | _ => .bad
  | _ => .bad
theorem me_maxV {e : Expr} {m : En → Sto → Rs D} {p pos apos cpos : Pos} (hc : X.calm = true) (hg : Gl X "max") (hm : X.mg "max" = none) (he : ME X W e m) (hbase : attributeBase e "values" X.env (eval e X.env) = eval e X.env := by rfl) (hline : (apos.endLine == cpos.line) = true := by rfl)
    (hst : starEach [.Call (.Attribute e "values" apos) [] [] cpos] X.env = (false, eval (.Call (.Attribute e "values" apos) [] [] cpos) X.env) :: starEach [] X.env := by rfl) (hpl : (backTo pos (starEach [] X.env)).any (·.1) = false := by rfl) :
    ME X W (.Call (.Name "max" p) [.Call (.Attribute e "values" apos) [] [] cpos] [] pos) (m1 fMaxV m) :=
  PE.imp (pe_callB (cr_maxV hc) hg hm PyProof.Rows.boot_max (pa_cons (pe_view he hbase hline) pa_nil hst) (by decide) (by decide) hst hpl) fun σ H Q q => by
    obtain ⟨p, S, E, hs, he, q⟩ := q
    refine lE_step hs he (post_mono (fun d S1 p1 H1 x1 hs1 q1 v rv => ?_) (post_bind q))
    have main : ∀ (a : Addr) (kvs : List (Key × D)), v = .ref a → (∃ ws, Rd H1 a (.dK ws) ∧ RKs (gX X) p1 H1 kvs ws) → post (gX X) W p1 H1 (fMax (kvs.map (·.2)) S1) (kE (gX X) Q) → ∃ d kvs, v = .ref d ∧ Rd H1 d (.dK kvs) ∧ ∀ a, H1 a = none → rMaxV [.ref a] (upd H1 a (ViewO a d)) Q := by
      intro a kvs ev ⟨ws, hrd, rk⟩ q2
      refine ⟨a, ws, ev, hrd, fun b hb => ?_⟩
      unfold fMax at q2
      split at q2
      · rename_i n ns hn
        have e1 := toInts_eq hn
        have rk2 := rk.2
        rw [e1] at rk2
        have e2 := ints_read rk2
        have hne : ∀ o, H1 a = some o → a ≠ b := fun o ho => ne_of_none ho hb
        have hrd2 : Rd (upd H1 b (ViewO b a)) a (.dK ws) := by
          rcases hrd with h | ⟨o, h⟩
          · exact .inl (by rw [upd_ne (hne _ h)]; exact h)
          · exact .inr ⟨o, by rw [upd_ne (hne _ h)]; exact h⟩
        refine ⟨b, a, ws, n :: ns, rfl, upd_same, hrd2, e2, by simp, fun m hm hall => ?_⟩
        obtain ⟨h1, h2⟩ := foldl_max_spec ns n
        have em : m = ns.foldl max n := Int.le_antisymm (h1 m hm) (hall _ h2)
        rw [em]
        exact q2 p1 _ (Ext.new hb) (hs1.frame hb) _ rfl
      · exact q2.elim
    unfold fMaxV at q1
    split at q1
    · obtain ⟨a, ea, rfl⟩ := rv
      split at q1
      · rename_i kvs hd
        exact main a kvs rfl (dk_at hs1 ea (.inl hd)) q1
      · rename_i kvs hd
        exact main a kvs rfl (dk_at hs1 ea (.inr hd)) q1
      · exact q1.elim
    · exact q1.elim
end
end M

namespace M
open PySem L2
/-! ### a def that keeps its promise, under its name -/
section
variable {P : Program} {w : World} {K : PySem.W.Frag} {mg : Str → Option Value} {base : Heap}
structure DefAt (P : Program) (w : World) (K : PySem.W.Frag) (mg : Str → Option Value) (base : Heap) (k : Nat) (x : Str) (n : Nat) (mf : List D → Sto → Rs D) : Prop where
  ex : ∃ (f : Addr) (fd : FuncData) (ps : List Str), FnOk P w K mg base CX0 k f fd ps (spM ⟨K, P, w⟩ n mf) ∧ mg x = some (.ref f) ∧ PySem.W.keepIn K (.ref f) = true ∧ Binds K fd ps []
/-- the body's hypothesis: the def's code object is known -/
theorem ok_defC {x : Str} {st : Stmt} {fd : FuncData} {N ps : List Str} {k : Nat} {mb : En → Sto → Rs Fl} (F : FunD K x x (defArgs st) (defBody st) (defScope st) [] [] (He.ga K x) fd) (S : FnScope N ps (defScope st))
    (hb : ∀ (A : Around) (outer : List Env) (s : Shared) (H : Hp) (E : XK), Room k (A.deeper (PyProof.Rows.envOfC x (defScope st) s.heap.objs.size (He.ga K x) (.ref (He.codeOf K (x, none))))) → MSs (cxOf CX0 P w K mg base N x (defScope st) (He.ga K x) (.ref (He.codeOf K (x, none))) A outer s H E).nox W0 (defBody st) mb) :
    FnOk P w K mg base CX0 (k + 1) (He.ga K x) fd ps (spM ⟨K, P, w⟩ ps.length (mDef N.length mb)) := by
  obtain ⟨oc, od, dV, kV, doc, pm, an, cdv, ct, osl, rfl, lk, hcd, _, _⟩ := F.ex
  obtain ⟨c, rfl⟩ := He.codeIn_ref hcd
  have e : He.codeOf K (x, none) = c := He.codeOf_eq (p := (x, none)) lk rfl
  rw [e] at hb
  refine fn_of lk hcd S (fun vs H Q E h => h.1) (fun A outer s H vs Q E hr h => ?_)
  obtain ⟨hl, p, S', ds, hs, rd, q⟩ := h
  refine ⟨_, PSs.nox (hb A outer s H E hr), p, S', startE N.length ds, hs, RE.start N rd, post_mono (fun fl S1 p1 H1 x1 hs1 q1 => ?_) (post_bindB q)⟩
  cases fl with
  | nx E1 => exact fun σ' _ => gc_read (d := .non) (v := .non) hs x1 hs1 rfl q1
  | rt d => exact fun v rv => gc_read hs x1 hs1 rv q1
  | bk E1 => exact q1.elim
  | ct E1 => exact q1.elim
theorem defAt {x : Str} {st : Stmt} {N ps : List Str} {k : Nat} {mb : En → Sto → Rs Fl} (F : ∃ fd, FunD K x x (defArgs st) (defBody st) (defScope st) [] [] (He.ga K x) fd) (hm : mg x = some (.ref (He.ga K x))) (S : FnScope N ps (defScope st))
    (hbd : ∀ (kV doc pm : Value) (an : Option Addr) (cdv ct : Value) (us : List Value), us.length = ps.length → bindArgs (PySem.W.fnOf x x (defArgs st) (defBody st) (defScope st) .none kV doc pm an cdv ct) ⟨us, []⟩ = pure (ps.zip us))
    (hb : ∀ (A : Around) (outer : List Env) (s : Shared) (H : Hp) (E : XK), Room k (A.deeper (PyProof.Rows.envOfC x (defScope st) s.heap.objs.size (He.ga K x) (.ref (He.codeOf K (x, none))))) → MSs (cxOf CX0 P w K mg base N x (defScope st) (He.ga K x) (.ref (He.codeOf K (x, none))) A outer s H E).nox W0 (defBody st) mb) :
    DefAt P w K mg base (k + 1) x ps.length (mDef N.length mb) := by
  obtain ⟨fd, F⟩ := F
  exact ⟨_, fd, ps, ok_defC F S hb, hm, F.kp, F.bindsN hbd⟩
end
section
variable {X : Cx} {W : XW}
theorem me_cl {k j n : Nat} {mf : List D → Sto → Rs D} {x : Str} {p pos : Pos} {e : Expr} {es : List Expr} {t : En → Sto → Rs (List D)} (F : DefAt X.prog X.w X.K X.mg X.base k x n mf) (hr : Room j X.A) (hk : k ≤ j) (hg : Gl X x)
    (ha : MA X W (e :: es) t) (hdb : (x == ("__debug__" : Str)) = false := by decide) (he : starEach (e :: es) X.env = (false, eval e X.env) :: starEach es X.env := by rfl) (hpl : (backTo pos (starEach es X.env)).any (·.1) = false := by rfl) :
    ME X W (.Call (.Name x p) (e :: es) [] pos) (mN (mCl n mf) t) := by
  obtain ⟨f, fd, ps, F, hm, hkp, hb⟩ := F.ex
  exact me_call F (hr.mono hk) hg hm hkp hb ha hdb he hpl
theorem me_cl0 {k j : Nat} {mf : List D → Sto → Rs D} {x : Str} {p pos : Pos} (F : DefAt X.prog X.w X.K X.mg X.base k x 0 mf) (hr : Room j X.A) (hk : k ≤ j) (hg : Gl X x)
    (hdb : (x == ("__debug__" : Str)) = false := by decide) : ME X W (.Call (.Name x p) [] [] pos) (mN (mCl 0 mf) aNil) := by
  obtain ⟨f, fd, ps, F, hm, hkp, hb⟩ := F.ex
  exact me_call0 (n := 0) F (hr.mono hk) hg hm hkp hb hdb
end
/-! ### the law's end -/
def tbsOf (cs : List (Addr × Addr)) (qs : List Str) : Sto := (cs.zip qs).map fun z => .tb z.1.2 z.2
/-- the script of an open list is locked ahead of the law -/
theorem HOk.lockL {P : Program} {w : World} {H : Hp} {h : Heap} {a : Addr} {xs : List V} (ok : HOk P w H h) (e : H a = some (.lst xs)) : ∃ ob, HOk P w (upd H a (.frz ob (.lst xs))) h := by
  have x := ok a _ e
  have x' := x
  obtain ⟨_, its, n, _, eo⟩ := x
  have ne1 : ∀ b c, H b = some (.own c) → (upd H a (.frz { cls := .type "list", data := .seq its.toArray n } (.lst xs))) b = some (.own c) := fun b c q => by
    rw [upd_ne (fun z => by rw [z, e] at q; cases q)]; exact q
  have ne2 : ∀ b ys, H b = some (.tup ys) → (upd H a (.frz { cls := .type "list", data := .seq its.toArray n } (.lst xs))) b = some (.tup ys) := fun b c q => by
    rw [upd_ne (fun z => by rw [z, e] at q; cases q)]; exact q
  refine ⟨{ cls := .type "list", data := .seq its.toArray n }, fun b u q => ?_⟩
  by_cases hb : b = a
  · subst hb
    rw [upd_same] at q
    cases q
    exact ⟨eo, x'.stay (fun _ _ _ z => z) (fun c z => ne1 c _ z) ne2⟩
  · rw [upd_ne hb] at q
    exact (ok b u q).stay (fun _ _ _ z => z) (fun c z => ne1 c _ z) ne2
theorem lawAtM {l : PySem.W.OpenLaw} {w : World} {K : PySem.W.Frag} {k n : Nat} {x : Str} {mg : Str → Option Value} {fa : Addr} {h : Heap} {fd : FuncData} {mf : List D → Sto → Rs D} (cs : List (Addr × Addr)) (qs : List Str) (hq : cs.length = qs.length) (nd : (cs.map (·.2)).Nodup)
    (hT : ∀ p ∈ cs, h.get? p.2 = some { cls := .none, data := .fields #[] }) (nT : ∀ p ∈ cs, K.lookup p.2 = none) (C : ∀ p ∈ cs, PySem.W.CodeHd h p.1 p.2) (hb : ∀ (s : Shared) (u : Value), BindsTo s fd ⟨[u], []⟩ [(x, u)])
    (hF : ∀ base : Heap, K.In base → base.Ns mainGlobals mg → (∀ p ∈ cs, LamX.TabB base mg p.1 p.2) → FnOk l.prog w K mg base CX0 k fa fd [x] (spM ⟨K, l.prog, w⟩ 1 mf))
    (hl : ∀ ns : List Int, ns.length ≤ n → (∀ z ∈ ns, Builtin.Int.intBits z ≤ 1048576) → ∃ S1, mf [.rl ns] (tbsOf cs qs) = .ok (.bl true) S1) :
    LamX.LawAtS l w K CX0 k n x mg fa h := by
  refine ⟨fd, cs, fun vs H Q _ => ∃ (a : Addr) (ns : List Int), vs = [.ref a] ∧ ns.length ≤ n ∧ (∀ z ∈ ns, Builtin.Int.intBits z ≤ 1048576) ∧ (∀ p ∈ cs, H p.2 = some (.tbl #[])) ∧ SqL K H a (ns.map V.int) ∧ Q = fun v _ => v = .bl true, hT, nT, C, hb, fun H a ns h1 h2 h3 h4 => ⟨a, ns, rfl, h1, h2, h3, h4, rfl⟩, fun base b1 b2 b3 => ?_⟩
  have F := hF base b1 b2 b3
  refine ⟨fun vs H Q E ⟨a, ns, e, _⟩ => by rw [e]; rfl, fun A outer s H args us vs Q E hr e0 bd rv hsp => ?_⟩
  obtain ⟨a, ns, rfl, h1, h2, h3, h4, rfl⟩ := hsp
  obtain ⟨S1, hS⟩ := hl ns h1 h2
  have key : ∀ H : Hp, (∀ p ∈ cs, H p.2 = some (.tbl #[])) → RdL K H a (ns.map V.int) → spM ⟨K, l.prog, w⟩ 1 mf [.ref a] H (fun v _ => v = .bl true) E := fun H h3 h4 => by
    refine ⟨rfl, cs.map (·.2), tbsOf cs qs, [.rl ns], ⟨by simp [tbsOf, hq], nd, fun i b o e1 e2 => ?_⟩, ⟨.ref a, [], rfl, ⟨a, rfl, h4⟩, rfl⟩, ?_⟩
    · rw [List.getElem?_map] at e1
      unfold tbsOf at e2
      rw [List.getElem?_map] at e2
      cases hc : cs[i]? with
      | none => rw [hc] at e1; cases e1
      | some c =>
        rw [hc] at e1
        have e1' : c.2 = b := Option.some.inj e1
        cases hz : (cs.zip qs)[i]? with
        | none => rw [hz] at e2; cases e2
        | some z =>
          rw [hz] at e2
          have e2' : O.tb z.1.2 z.2 = o := Option.some.inj e2
          have ez : z.1 = c := by
            rw [List.getElem?_zip_eq_some] at hz
            rw [hc] at hz
            exact (Option.some.inj hz.1).symm
          subst e2'
          rw [← e1']
          refine ⟨_, h3 c (List.mem_of_getElem? hc), by rw [ez], #[], rfl, ?_, fun pos cv z => ?_⟩
          · trivial
          · cases z
    · rw [hS]
      exact fun p' H' _ _ v rv => rv
  rcases h4 with (h4 | ⟨o, h4⟩) | h4
  · obtain ⟨ob, ok'⟩ := HOk.lockL e0.hok h4
    have ne : ∀ b, H b = none → (upd H a (.frz ob (.lst (ns.map V.int)))) b = none := fun b q => by
      rw [upd_ne (fun z => by rw [z, h4] at q; cases q)]; exact q
    have e0' : Env0 l.prog w K mg base A outer s (upd H a (.frz ob (.lst (ns.map V.int)))) := ⟨e0.frames, e0.mod, fun b o q => ⟨(e0.bs b o q).1, ne b (e0.bs b o q).2⟩, e0.bsz, e0.funs, fun b q => ne b (e0.frf b q), ok', e0.bare⟩
    refine codeAny_mono (F.run A outer s _ args us _ _ E hr e0' bd rv (key _ (fun p hp => by
      rw [upd_ne (fun z => by have := h3 p hp; rw [z, h4] at this; cases this)]; exact h3 p hp) (.inl ⟨ob, upd_same⟩))) fun r s' z => ?_
    cases r with
    | error e => exact z
    | ok fl =>
      cases fl with
      | ret u =>
        obtain ⟨v, H', z1, z2, z3, z4, z5, z6⟩ := z
        refine ⟨v, H', z1, z2, ⟨fun b o e n => z3.keep b o e (ne b n), fun b o e n => z3.slot b o e (ne b n), fun b o e n => z3.free b o e (ne b n), z3.there, fun b ys e => z3.tups b ys ?_, fun b o u e => z3.frzs b o u ?_, fun b ps e => z3.tbls b ps ?_⟩, z4, z5, z6⟩
        all_goals (rw [upd_ne (fun z => by rw [z, h4] at e; cases e)]; exact e)
      | _ => exact z
  · exact F.run A outer s H args us _ _ E hr e0 bd rv (key H h3 (.inl ⟨o, h4⟩))
  · exact F.run A outer s H args us _ _ E hr e0 bd rv (key H h3 (.inr (.inr h4)))
section
variable {X : Cx} {W : XW}
/-- a constant of the module -/
theorem me_gl {x : Str} {d : D} {pos : Pos} (h : ∃ a, X.mg x = some (.ref a) ∧ ∀ p H, RD (gX X) p H d (.ref a)) (hg : Gl X x) (hd : (x == ("__debug__" : Str)) = false := by decide) : ME X W (.Name x pos) (mC d) := by
  obtain ⟨a, hm, hr⟩ := h
  exact me_glob (v := .ref a) hg hm rfl hr hd
end
end M

namespace M
open PySem L2
section
variable {X : Cx} {W : XW}
/-- a, b = x, y -/
def sPar (i j : Nat) (t : En → Sto → Rs (List D)) : En → Sto → Rs Fl := fun E S => (t E S).bind fun ds S1 => match ds with
  | [a, b] => .ok (.nx ((E.set i (some a)).set j (some b))) S1
  | _ => .bad
theorem ms_par {i j : Nat} {x y : Str} {a b : Expr} {t : En → Sto → Rs (List D)} {px py pt pos : Pos} {kt k2 pt2} (hc : X.calm = true) (hN : X.N.Nodup) (hi : X.N[i]? = some x) (hj : X.N[j]? = some y) (hij : i ≠ j)
    (hx : X.env.scope.names.lookup x = some .local) (hy : X.env.scope.names.lookup y = some .local) (ha : MA X W [a, b] t)
    (hw : swappedStores [.Tuple [.Name x px, .Name y py] kt pt] (.Tuple [a, b] k2 pt2) X.env = pure (some [x, y]))
    (hs : swapsWithSole [.Tuple [.Name x px, .Name y py] kt pt] (.Tuple [a, b] k2 pt2) pos.line X.env = pure false := by rfl) :
    MS X W (.Assign [.Tuple [.Name x px, .Name y py] kt pt] (.Tuple [a, b] k2 pt2) pos) (sPar i j t) :=
  PS.imp (ps_par hc hN hi hj hij hx hy ha hw hs) fun Z σ H q => by
    obtain ⟨p, S, E, hs, he, q⟩ := q
    refine ⟨p, S, E, hs, he, post_mono (fun ds S1 p1 H1 x1 hs1 q1 vs rvs => ?_) (post_bind q)⟩
    match ds, q1, rvs with
    | [d1, d2], q1, rvs =>
      obtain ⟨v1, us, rfl, r1, v2, us2, rfl, r2, r3⟩ := rvs
      cases us2 with
      | nil => exact ⟨v1, v2, rfl, post_ok q1 hs1 _ (((he.mono x1.pre x1.tup).set r1).set r2)⟩
      | cons _ _ => cases r3
    | [], q1, _ => exact q1.elim
    | [_], q1, _ => exact q1.elim
    | _ :: _ :: _ :: _, q1, _ => exact q1.elim
/-- a, b, c = x, y, z -/
def sPar3 (i j l : Nat) (t : En → Sto → Rs (List D)) : En → Sto → Rs Fl := fun E S => (t E S).bind fun ds S1 => match ds with
  | [a, b, c] => .ok (.nx (((E.set i (some a)).set j (some b)).set l (some c))) S1
  | _ => .bad
theorem ms_par3 {i j l : Nat} {x y z : Str} {a b c : Expr} {t : En → Sto → Rs (List D)} {px py pz pt pos : Pos} {kt k2 pt2} (hc : X.calm = true) (hN : X.N.Nodup) (hi : X.N[i]? = some x) (hj : X.N[j]? = some y) (hl : X.N[l]? = some z) (hij : i ≠ j) (hil : i ≠ l) (hjl : j ≠ l)
    (hx : X.env.scope.names.lookup x = some .local) (hy : X.env.scope.names.lookup y = some .local) (hz : X.env.scope.names.lookup z = some .local) (ha : MA X W [a, b, c] t)
    (hw : swappedStores [.Tuple [.Name x px, .Name y py, .Name z pz] kt pt] (.Tuple [a, b, c] k2 pt2) X.env = pure (some [x, y, z]))
    (hs : swapsWithSole [.Tuple [.Name x px, .Name y py, .Name z pz] kt pt] (.Tuple [a, b, c] k2 pt2) pos.line X.env = pure false := by rfl) :
    MS X W (.Assign [.Tuple [.Name x px, .Name y py, .Name z pz] kt pt] (.Tuple [a, b, c] k2 pt2) pos) (sPar3 i j l t) :=
  PS.imp (ps_par3 hc hN hi hj hl hij hil hjl hx hy hz ha hw hs) fun Z σ H q => by
    obtain ⟨p, S, E, hs, he, q⟩ := q
    refine ⟨p, S, E, hs, he, post_mono (fun ds S1 p1 H1 x1 hs1 q1 vs rvs => ?_) (post_bind q)⟩
    match ds, q1, rvs with
    | [d1, d2, d3], q1, rvs =>
      obtain ⟨v1, us, rfl, r1, v2, us2, rfl, r2, v3, us3, rfl, r3, r4⟩ := rvs
      cases us3 with
      | nil => exact ⟨v1, v2, v3, rfl, post_ok q1 hs1 _ ((((he.mono x1.pre x1.tup).set r1).set r2).set r3)⟩
      | cons _ _ => cases r4
    | [], q1, _ => exact q1.elim
    | [_], q1, _ => exact q1.elim
    | [_, _], q1, _ => exact q1.elim
    | _ :: _ :: _ :: _ :: _, q1, _ => exact q1.elim
end
end M

namespace M
open PySem L2
section
variable {X : Cx} {W : XW}
/-! ### a op b op c -/
def mChain (f g : D → D → Sto → Rs D) (ma mb mc : En → Sto → Rs D) : En → Sto → Rs D := fun E S => (ma E S).bind fun x S1 => (mb E S1).bind fun y S2 => (f x y S2).bind fun z S3 => match z with
  | .bl true => (mc E S3).bind fun w S4 => g y w S4
  | .bl false => .ok (.bl false) S3
  | _ => .bad
theorem chain_read {r r' : R2} {f g : D → D → Sto → Rs D} {ma mb mc : En → Sto → Rs D} (hp : Prim2 (gX X) W r f) (hp' : Prim2 (gX X) W r' g) {σ : St} {H : Hp} {Q : VK} (q : lE (gX X) W (mChain f g ma mb mc) σ H Q) : tChain r r' (lE (gX X) W ma) (lE (gX X) W mb) (lE (gX X) W mc) σ H Q := by
  obtain ⟨p, S, E, hs, he, q⟩ := q
  refine lE_step hs he (post_mono (fun x S1 p1 H1 x1 hs1 q1 v rv => ?_) (post_bind q))
  refine lE_step hs1 (he.mono x1.pre x1.tup) (post_mono (fun y S2 p2 H2 x2 hs2 q2 u ru => ?_) (post_bind q1))
  have he2 := (he.mono x1.pre x1.tup).mono x2.pre x2.tup
  refine hp p2 S2 H2 x y v u _ hs2 (rv.mono x2.pre x2.tup) ru (post_mono (fun z S3 p3 H3 x3 hs3 q3 w rw' => ?_) (post_bind q2))
  cases z with
  | bl b =>
    refine ⟨b, rw', ?_⟩
    cases b with
    | false => exact post_ok q3 hs3 _ rfl
    | true =>
      refine lE_step hs3 (he2.mono x3.pre x3.tup) (post_mono (fun d S4 p4 H4 x4 hs4 q4 t rt => ?_) (post_bind q3))
      exact hp' p4 S4 H4 y d u t Q hs4 ((ru.mono x3.pre x3.tup).mono x4.pre x4.tup) rt q4
  | _ => exact q3.elim
theorem me_chain {a b c : Expr} {pos : Pos} {op op' : CmpOp} {r r' : R2} {f g : D → D → Sto → Rs D} {ma mb mc : En → Sto → Rs D} (ho : OpR X (compareOp op) r) (hp : Prim2 (gX X) W r f) (ho' : OpR X (compareOp op') r') (hp' : Prim2 (gX X) W r' g) (ha : ME X W a ma) (hb : ME X W b mb) (hc : ME X W c mc)
    (hm : lastMarks [op, op'] [b, c] = false := by with_unfolding_all rfl) : ME X W (.Compare a [op, op'] [b, c] pos) (mChain f g ma mb mc) :=
  PE.imp (pe_chain ho ho' ha hb hc hm) fun _ _ _ q => chain_read hp hp' q
theorem mt_chain {a b c : Expr} {pos : Pos} {op op' : CmpOp} {r r' : R2} {f g : D → D → Sto → Rs D} {ma mb mc : En → Sto → Rs D} (ho : OpR X (compareOp op) r) (hp : Prim2 (gX X) W r f) (ho' : OpR X (compareOp op') r') (hp' : Prim2 (gX X) W r' g) (ha : ME X W a ma) (hb : ME X W b mb) (hc : ME X W c mc)
    (hm : lastMarks [op, op'] [b, c] = false := by with_unfolding_all rfl) : MT X W (.Compare a [op, op'] [b, c] pos) (tB (mChain f g ma mb mc)) :=
  PT.imp (pt_chain ho ho' ha hb hc hm) fun σ H Q q => by
    obtain ⟨p, S, E, hs, he, q⟩ := q
    refine chain_read hp hp' (Q := fun x H' => ∃ k, x = .bl k ∧ Q k H') (lE_step hs he (post_mono (fun d S1 p1 H1 x1 hs1 q1 v rv => ?_) (post_bind q)))
    cases d with
    | bl b => exact ⟨b, rv, post_ok q1 hs1⟩
    | _ => exact q1.elim
/-! ### slices -/
def cutD {α : Type} (xs : List α) (lo hi : Option Int) : List α := (xs.drop (HT.sIx xs.length 0 lo)).take (HT.sIx xs.length xs.length hi - HT.sIx xs.length 0 lo)
theorem RDs.drp {K : KX} {p : List Addr} {H : Hp} : ∀ {n : Nat} {ds : List D} {vs : List V}, RDs K p H ds vs → RDs K p H (ds.drop n) (vs.drop n)
  | 0, _, _, h => h
  | n + 1, [], vs, h => by cases (show vs = [] from h); exact h
  | n + 1, d :: ds, vs, h => by
    obtain ⟨v, us, rfl, _, h2⟩ := h
    exact RDs.drp (n := n) h2
theorem RDs.tke {K : KX} {p : List Addr} {H : Hp} : ∀ {n : Nat} {ds : List D} {vs : List V}, RDs K p H ds vs → RDs K p H (ds.take n) (vs.take n)
  | 0, _, _, _ => rfl
  | n + 1, [], vs, h => by cases (show vs = [] from h); rfl
  | n + 1, d :: ds, vs, h => by
    obtain ⟨v, us, rfl, h1, h2⟩ := h
    exact ⟨v, us.take n, rfl, h1, RDs.tke h2⟩
theorem RDs.cutd {K : KX} {p : List Addr} {H : Hp} {ds : List D} {vs : List V} {lo hi : Option Int} (h : RDs K p H ds vs) : RDs K p H (cutD ds lo hi) (cutV vs lo hi) := by
  unfold cutD cutV
  rw [h.length]
  exact RDs.tke (RDs.drp h)
def oNone : En → Sto → Rs (Option Int) := fun _ S => .ok none S
def oSome (m : En → Sto → Rs D) : En → Sto → Rs (Option Int) := fun E S => (m E S).bind fun d S1 => match d with
  | .int i => .ok (some i) S1
  | _ => .bad
def lO (K : KX) (W : XW) (m : En → Sto → Rs (Option Int)) : TO := fun σ H Q => ∃ p S E, RS K p S H ∧ RE K p H E σ ∧ post K W p H (m E S) fun o _ _ H' => Q o H'
abbrev MO (X : Cx) (W : XW) (e : Option Expr) (m : En → Sto → Rs (Option Int)) : Prop := PO X e (lO (gX X) W m)
theorem mo_none : MO X W none oNone := ⟨fun pins s σ H Q I h => by
  obtain ⟨p, S, E, hs, he, q⟩ := h
  exact po_none.run pins s σ H Q I (post_ok q hs)⟩
theorem mo_some {e : Expr} {m : En → Sto → Rs D} (hm : ME X W e m) : MO X W (some e) (oSome m) := ⟨fun pins s σ H Q I h => by
  obtain ⟨p, S, E, hs, he, q⟩ := h
  refine (po_some hm).run pins s σ H Q I (lE_step hs he (post_mono (fun d S1 p1 H1 x1 hs1 q1 v rv => ?_) (post_bind q)))
  cases d with
  | int i => exact ⟨i, rv, post_ok q1 hs1⟩
  | _ => exact q1.elim⟩
def fSl (x : D) (lo hi : Option Int) (S : Sto) : Rs D := match x with
  | .tup ds => .ok (.tup (cutD ds lo hi)) S
  | .ref n => match S[n]? with
    | some (.lst ds) => .ok (.ref S.length) (S ++ [.lst (cutD ds lo hi)])
    | _ => .bad
  | _ => .bad
def mSl (m : En → Sto → Rs D) (lo hi : En → Sto → Rs (Option Int)) : En → Sto → Rs D := fun E S => (m E S).bind fun x S1 => (lo E S1).bind fun l S2 => (hi E S2).bind fun u S3 => fSl x l u S3
theorem cut_whole {α : Type} {xs : List α} {lo hi : Option Int} (h : HT.sIx xs.length 0 lo = 0 ∧ HT.sIx xs.length xs.length hi = xs.length) : cutD xs lo hi = xs := by
  unfold cutD
  rw [h.1, h.2]
  simp
theorem me_slice {e : Expr} {lo hi : Option Expr} {m : En → Sto → Rs D} {ml mh : En → Sto → Rs (Option Int)} {p2 pos : Pos} (he : ME X W e m) (hl : MO X W lo ml) (hh : MO X W hi mh) : ME X W (.Subscript e (.Slice lo hi none p2) pos) (mSl m ml mh) :=
  PE.imp (pe_slice (sl_tupA.or sl_list) he hl hh) fun σ H Q q => by
    obtain ⟨p, S, E, hs, he, q⟩ := q
    refine lE_step hs he (post_mono (fun x S1 p1 H1 x1 hs1 q1 v rv => ?_) (post_bind q))
    have he1 := he.mono x1.pre x1.tup
    refine ⟨p1, S1, E, hs1, he1, post_mono (fun l S2 p2 H2 x2 hs2 q2 => ?_) (post_bind q1)⟩
    have he2 := he1.mono x2.pre x2.tup
    refine ⟨p2, S2, E, hs2, he2, post_mono (fun u S3 p3 H3 x3 hs3 q3 => ?_) (post_bind q2)⟩
    have rv3 := (rv.mono x2.pre x2.tup).mono x3.pre x3.tup
    unfold fSl at q3
    cases x with
    | tup ds =>
      obtain ⟨a, xs, rfl, hx, rs⟩ := rv3
      refine .inl ⟨a, xs, rfl, hx, fun hw => ?_, fun _ b hb => ?_⟩
      · have hw' : HT.sIx ds.length 0 l = 0 ∧ HT.sIx ds.length ds.length u = ds.length := by rw [rs.length]; exact hw
        simp only [cut_whole hw'] at q3
        exact post_ok q3 hs3 _ ⟨a, xs, rfl, hx, rs⟩
      · exact new_tup hs3 rs.cutd q3 hb
    | ref n =>
      simp only at q3
      split at q3
      · rename_i ds hd
        obtain ⟨a, ea, rfl⟩ := rv3
        obtain ⟨y, ey, vs, rfl, rs⟩ := hs3.get n a _ ea hd
        exact .inr ⟨a, vs, rfl, .inl (.of ey), fun b hb => new_obj hs3 (o := .lst (cutD ds l u)) ⟨_, rfl, rs.cutd⟩ q3 hb⟩
      · exact q3.elim
    | _ => exact q3.elim
end
end M

namespace M
open PySem L2
section
variable {X : Cx} {W : XW}
/-! ### zip(x, y) -/
def zipD (xs ys : List D) : List D := (xs.zip ys).map fun z => .tup [z.1, z.2]
theorem zipD_len (xs ys : List D) : (zipD xs ys).length = min xs.length ys.length := by simp [zipD]
theorem zipD_get {xs ys : List D} {i : Nat} {d : D} (h : (zipD xs ys)[i]? = some d) : ∃ x y, xs[i]? = some x ∧ ys[i]? = some y ∧ d = .tup [x, y] := by
  unfold zipD at h
  rw [List.getElem?_map] at h
  cases hq : (xs.zip ys)[i]? with
  | none => rw [hq] at h; cases h
  | some z =>
    rw [hq] at h
    obtain ⟨h1, h2⟩ := List.getElem?_zip_eq_some.mp hq
    exact ⟨z.1, z.2, h1, h2, (Option.some.inj h).symm⟩
theorem pair_z {q : List Addr} {S : Sto} {H' H2 : Hp} {T : Addr} {x y : V} {c d : D} (hT : H' T = none) (e : H2 = upd H' T (.tup [x, y])) (r : RS (gX X) q S H') (rc : RD (gX X) q H' c x) (rd : RD (gX X) q H' d y) :
    Ext (gX X) q H' q H2 ∧ RS (gX X) q S H2 ∧ RD (gX X) q H2 (.tup [c, d]) (.ref T) := by
  subst e
  have x1 : Ext (gX X) q H' q (upd H' T (.tup [x, y])) := Ext.new hT
  exact ⟨x1, r.frame hT, T, _, rfl, .of upd_same, _, _, rfl, rc.mono x1.pre x1.tup, _, _, rfl, rd.mono x1.pre x1.tup, rfl⟩
def aiZip (ds : List D) (S : Sto) : Rs AI := match ds with
  | [.tup xs, .tup ys] => .ok ⟨zipD xs ys, fun _ => True, none⟩ S
  | [.ref n, .ref m] => match S[n]?, S[m]? with
    | some (.lst xs), some (.lst ys) => .ok ⟨zipD xs ys, fun S => S[n]? = some (.lst xs) ∧ S[m]? = some (.lst ys), none⟩ S
    | _, _ => .bad
  | _ => .bad
def iZp (t : En → Sto → Rs (List D)) : En → Sto → Rs AI := fun E S => (t E S).bind aiZip
theorem mi_zip {e e2 : Expr} {t : En → Sto → Rs (List D)} {p pos tpos : Pos} {elts : List Expr} {kk : Nat} (hg : Gl X "zip") (hm : X.mg "zip" = none) (ha : MA X W [e, e2] t)
    (hs : starEach [e, e2] X.env = (false, eval e X.env) :: starEach [e2] X.env := by rfl) (hpl : (backTo pos (starEach [e2] X.env)).any (·.1) = false := by rfl) :
    MI X W (.Tuple elts kk tpos) (.Call (.Name "zip" p) [e, e2] [] pos) (iZp t) :=
  PI.imp (RZ.pi_zipA hg hm ha hs hpl) fun σ H R q => by
    obtain ⟨p, S, E, hs, he, q⟩ := q
    refine ⟨p, S, E, hs, he, post_mono (fun ds S1 p1 H1 x1 hs1 q1 vs rvs => ?_) (post_bind q)⟩
    unfold aiZip at q1
    split at q1
    · rename_i xs ys
      obtain ⟨v, us, rfl, rv, v2, us2, rfl, rv2, rn⟩ := rvs
      cases (show us2 = [] from rn)
      obtain ⟨a, us, rfl, ea, rs⟩ := rv
      obtain ⟨b, ws, rfl, eb, rt⟩ := rv2
      refine ⟨a, b, us, ws, rfl, .inr ⟨ea, eb, post_ok q1 hs1 _ _ .none ⟨fun i q S H' e' r g hi => ?_, fun q S H' e' r g => ?_, fun i q S H' y H2 dd e' r g hi yy => ?_⟩⟩⟩
      · have hi' : i < us.length ∧ i < ws.length := by
          have hi2 : i < (zipD xs ys).length := hi
          rw [zipD_len, rs.length, rt.length] at hi2
          omega
        exact ⟨us, ws, us[i], ws[i], e'.tup.tup _ _ ea, e'.tup.tup _ _ eb, by simp [hi'.1], by simp [hi'.2]⟩
      · refine ⟨us, ws, e'.tup.tup _ _ ea, e'.tup.tup _ _ eb, ?_⟩
        show us.length ≤ (zipD xs ys).length ∨ ws.length ≤ (zipD xs ys).length
        rw [zipD_len, rs.length, rt.length]
        omega
      · obtain ⟨x, z, hx, hz, rfl⟩ := zipD_get hi
        obtain ⟨T, u1, u2, rfl, hT, e2, h1, h2⟩ := yy
        obtain ⟨w1, hw1, r1⟩ := (rs.mono e'.pre e'.tup).get hx
        obtain ⟨w2, hw2, r2⟩ := (rt.mono e'.pre e'.tup).get hz
        have k1 := h1 us (e'.tup.tup _ _ ea)
        have k2 := h2 ws (e'.tup.tup _ _ eb)
        rw [hw1] at k1; cases k1
        rw [hw2] at k2; cases k2
        exact pair_z hT e2 r r1 r2
    · rename_i n m
      obtain ⟨v, us, rfl, rv, v2, us2, rfl, rv2, rn⟩ := rvs
      cases (show us2 = [] from rn)
      obtain ⟨a, ea, rfl⟩ := rv
      obtain ⟨b, eb, rfl⟩ := rv2
      split at q1
      · rename_i xs ys hd hd2
        obtain ⟨us, ex, rs⟩ := lst_at hs1 ea hd
        obtain ⟨ws, ey, rt⟩ := lst_at hs1 eb hd2
        have lst : ∀ q (S : Sto) H', Ext (gX X) p1 H1 q H' → RS (gX X) q S H' → (S[n]? = some (.lst xs) ∧ S[m]? = some (.lst ys)) → (∃ us, H' a = some (.lst us) ∧ RDs (gX X) q H' xs us) ∧ ∃ ws, H' b = some (.lst ws) ∧ RDs (gX X) q H' ys ws := fun q S H' e r g => ⟨lst_at r (e.pre.get ea) g.1, lst_at r (e.pre.get eb) g.2⟩
        refine ⟨a, b, us, ws, rfl, .inl ⟨.of ex, .of ey, post_ok q1 hs1 _ _ .none ⟨fun i q S H' e' r g hi => ?_, fun q S H' e' r g => ?_, fun i q S H' y H2 dd e' r g hi yy => ?_⟩⟩⟩
        · obtain ⟨⟨us, ew, rs⟩, ws, ew2, rt⟩ := lst q S H' e' r g
          have hi' : i < us.length ∧ i < ws.length := by
            have hi2 : i < (zipD xs ys).length := hi
            rw [zipD_len, rs.length, rt.length] at hi2
            omega
          exact ⟨us, ws, us[i], ws[i], .of ew, .of ew2, by simp [hi'.1], by simp [hi'.2]⟩
        · obtain ⟨⟨us, ew, rs⟩, ws, ew2, rt⟩ := lst q S H' e' r g
          refine ⟨us, ws, .of ew, .of ew2, ?_⟩
          show us.length ≤ (zipD xs ys).length ∨ ws.length ≤ (zipD xs ys).length
          rw [zipD_len, rs.length, rt.length]
          omega
        · obtain ⟨⟨us, ew, rs⟩, ws, ew2, rt⟩ := lst q S H' e' r g
          obtain ⟨x, z, hx, hz, rfl⟩ := zipD_get hi
          obtain ⟨T, u1, u2, rfl, hT, e2, h1, h2⟩ := yy
          obtain ⟨w1, hw1, r1⟩ := rs.get hx
          obtain ⟨w2, hw2, r2⟩ := rt.get hz
          have k1 := h1 us (.of ew)
          have k2 := h2 ws (.of ew2)
          rw [hw1] at k1; cases k1
          rw [hw2] at k2; cases k2
          exact pair_z hT e2 r r1 r2
      · exact q1.elim
    · exact q1.elim
end
end M

namespace M
open PySem PySem.Spec PyProof.Rows L2
/-! ### set(xs) of a list of ints: a set whose order is led -/
section
variable {P : Program} {w : World} {A : Around} {E : Value → Shared → Prop} {s : Shared}
/-- the set as it is made -/
abbrev soNew (w : World) : Obj := { cls := .type "set", dict := none, data := .set #[] 0 (.fresh 0 0 (!w.params.followText "set-order")) }
/-- what the filled set is -/
def SetFilled (w : World) (s : Shared) (ns : List Int) (s2 : Shared) : Prop := ∃ h' tk c, s2 = { s with heap := h', toks := tk } ∧ SetR w h' s.heap.objs.size (fun j => decide (j ∈ ns)) c ∧ c ≤ ns.length ∧ ∀ b o, s.heap.get? b = some o → h'.get? b = some o
theorem fill_list {l : Addr} {items : Array Value} (ns : List Int) (hh : A.handled = none) (hl : s.heap.IsList l items) (hit : IntsAre items.toList ns) (hb : ns.length + 1 < scanBound) :
    codeAny (model P w) A (.call (.builtin "set.__init__") ⟨[.ref s.heap.objs.size, .ref l], []⟩) (wants (fun r s2 => r = .none ∧ SetFilled w s ns s2) E) { s with heap := s.heap.push (soNew w) } := by
  have hn : items.size = ns.length := by rw [← Array.length_toList]; exact IntsAre.length hit
  have hS : (s.heap.push (soNew w)).get? s.heap.objs.size = some (soNew w) := Heap.get?_push_size _ rfl
  have hT : Shared.TypeIs { s with heap := s.heap.push (soNew w) } (.ref s.heap.objs.size) "set" := ⟨_, hS, rfl⟩
  refine codeAny_call_builtin F.called_set.init.plain F.entry_set_init (check_set_init_1 hT ?_)
  obtain ⟨⟨oc, od, dt, sl⟩, ho, c1, nl, d1⟩ := hl
  simp only at c1 d1
  subst c1 d1
  have ho' : (s.heap.push (soNew w)).get? l = some ⟨.type "list", od, .seq items nl, sl⟩ := Heap.get?_push_of_some _ ho
  have k1 := F.sub_list_set
  have k2 := F.sub_list_frozenset
  have k3 : (Value.type "list" == Value.type "dict") = false := by decide
  have hl1 : (s.heap.push (soNew w)).IsList l items := ⟨_, ho', rfl, nl, rfl⟩
  unfold Builtin.«set.__init__» noKeywords Builtin.Frozenset.updateFrom
  generalize hPI : pyIter = PI
  wp_walk
  subst hPI
  refine wpAny_pyIter_list hl1 (wpAny_bind (wpAny_runValue ?_))
  have lt : l < s.heap.objs.size := Heap.lt_size ho
  have sz : (s.heap.push (soNew w)).objs.size = s.heap.objs.size + 1 := Heap.size_push ..
  have vals : ∀ (i : Nat) (v : Value), items[i]? = some v → ∃ k t, ns[i]? = some k ∧ v = .int k t := fun i v hv => by
    have hi : i < ns.length := by rw [← hn]; exact (Array.getElem?_eq_some_iff.mp hv).1
    obtain ⟨t, e⟩ := IntsAre.int_at hit i v (by rw [Array.getElem?_toList]; exact hv)
    exact ⟨ns[i], t, by simp [hi], by rw [e, List.getD_eq_getElem?_getD, List.getElem?_eq_getElem hi]; rfl⟩
  have W := (Walks.list (prog := P) (w := w) (A := A.in1.in1) (by simp [hh]) (s.heap.push (soNew w)).objs.size l (by rw [sz]; exact Nat.ne_of_lt (Nat.lt_succ_of_lt lt)) items).toS
  have off : ∀ b : Addr, b < s.heap.objs.size → b ≠ (s.heap.push (soNew w)).objs.size := fun b hb => by rw [sz]; exact Nat.ne_of_lt (Nat.lt_succ_of_lt hb)
  have apart : s.heap.objs.size ∉ [(s.heap.push (soNew w)).objs.size, l] := by
    rw [sz, List.mem_cons, List.mem_singleton]
    exact fun z => z.elim (Nat.ne_of_lt (Nat.lt_succ_self _)) (Nat.ne_of_gt lt)
  refine set_update_ints W s.heap.objs.size apart ns hn hb vals items.size 0 _ (by omega) (Nat.zero_le _) ?zero ?first ?last
  case zero => exact ⟨⟨_, Heap.get?_push_size _ rfl, rfl, rfl⟩, hl1.push _⟩
  case first =>
    refine ⟨0, Nat.le_refl 0, setR_new_at ?_⟩
    exact Heap.get?_push_of_some _ hS
  case last =>
  intro s' c hm hc hS'
  obtain ⟨h', g', d', tk', os'⟩ := s'
  cases (show g' = s.gens from hm.gens)
  cases (show d' = s.drawn from hm.drawn)
  cases (show os' = s.os from hm.os)
  show wpAny _ _ _ _ _ _
  refine wpAny_pure ?_
  show wpAny _ _ (ret Value.none) _ _ _
  refine wpAny_pure ⟨rfl, h', tk', c, rfl, hS', by omega, fun b o e => ?_⟩
  have lb : b < s.heap.objs.size := Heap.lt_size e
  exact hm.heap b o (by rw [List.mem_cons, List.mem_singleton]; exact fun z => z.elim (Nat.ne_of_lt lb) (off b lb)) (Heap.get?_push_of_some _ (Heap.get?_push_of_some _ e))
theorem set_of_list {l : Addr} {items : Array Value} (ns : List Int) {Q : Value → Shared → Prop} (hh : A.handled = none) (hl : s.heap.IsList l items) (hit : IntsAre items.toList ns) (hb : ns.length + 1 < scanBound) (h : ∀ s2, SetFilled w s ns s2 → Q (.ref s.heap.objs.size) s2) :
    wpAny (model P w) A (call (.type "set") [.ref l]) Q E s := by
  obtain ⟨c0, tl0, m0⟩ := F.called_set.mro
  have m1 := F.called_set.made
  have m2 := F.called_set.sub
  have m3 := F.called_set.notType
  have m4 := F.called_set.canCreate
  have m5 := F.typeCall_set_1 (.ref l)
  refine wpAny_call (codeAny_of_tree (show wpAny _ _ (callAny (.type "set") _) _ _ _ from wpAny_pure ⟨Code.quiet_builtin _ (by decide +kernel), codeAny_builtin F.entry_type_call ?_⟩))
  rw [Around.under_plain (weight_type_call_type "set" [.ref l] []) rfl]
  repeat (any_goals (first | assumption | wp_step))
  refine codeAny_mono (code_set_led1 (.ref l) (E := E) (Q₁ := fun obj s₁ => obj = .ref s.heap.objs.size ∧ s₁ = { s with heap := s.heap.push (soNew w) }) ⟨rfl, rfl⟩) fun r s₁ hr => ?_
  rcases r with e | fl
  · exact hr
  · cases fl with
    | ret obj =>
      obtain ⟨rfl, rfl⟩ := hr
      have hT : Shared.TypeIs { s with heap := s.heap.push (soNew w) } (.ref s.heap.objs.size) "set" := ⟨_, Heap.get?_push_size _ rfl, rfl⟩
      have n1 := F.called_set.init.lookup
      have n2 := F.called_set.init.bind (.ref s.heap.objs.size)
      repeat (any_goals (first | assumption | wp_step))
      refine codeAny_mono (fill_list (E := E) ns (by simp [hh]) hl hit hb) fun r₂ s₂ hr₂ => ?_
      rcases r₂ with e | fl₂
      · exact hr₂
      · cases fl₂ with
        | ret v =>
          obtain ⟨rfl, hf⟩ := hr₂
          have hf' := hf
          obtain ⟨h', tk, c, rfl, _⟩ := hf'
          repeat (any_goals (first | assumption | wp_step))
          exact h _ hf
        | _ => exact hr₂.elim
    | _ => exact hr.elim
end
end M

namespace M
open PySem PySem.Spec PyProof.Rows L2
section
variable {X : Cx} {W : XW}
def rSetL1 (K : PySem.W.Frag) (w : World) : List V → Hp → VK → Prop := fun xs H Q => ∃ (l : Addr) (ns : List Int), xs = [.ref l] ∧ SqL K H l (ns.map V.int) ∧ ns.length + 1 < scanBound ∧ ∀ (p : Addr) (c : Nat), H p = none → c ≤ ns.length → Q (.ref p) (upd H p (SetO w p (fun j => decide (j ∈ ns)) c))
theorem cr_setL (hc : X.calm = true) : CallR X (.type "set") (rSetL1 X.K X.w) := by
  intro pins s σ H xs us Q I r h
  obtain ⟨l, ns, rfl, hq, hb, q⟩ := h
  rw [Vals.ref1 r]
  obtain ⟨its, rv, p', _⟩ := I.list hq
  refine set_of_list ns (I.ok.hd hc) p'.isList (by simpa using intsAre_of rv) hb fun s2 hf => ?_
  obtain ⟨h', tk, c, rfl, hS, hcl, hk⟩ := hf
  exact ⟨.ref _, upd H s.heap.objs.size (SetO X.w s.heap.objs.size (fun j => decide (j ∈ ns)) c), I.laid (t' := tk) hk (Nat.le_refl _) (setO_new hS), rfl, q _ c (I.hok.fresh (Nat.le_refl _)) hcl⟩
/-! ### ints in order, each once -/
def insU (x : Int) : List Int → List Int
  | [] => [x]
  | y :: r => if x < y then x :: y :: r else if x = y then y :: r else y :: insU x r
def sortU (ns : List Int) : List Int := ns.foldr insU []
theorem insU_mem {x z : Int} : ∀ {l : List Int}, z ∈ insU x l ↔ z = x ∨ z ∈ l
  | [] => by simp [insU]
  | y :: r => by
    unfold insU
    split
    · simp
    · split
      · rename_i _ h; subst h; simp
      · rw [List.mem_cons, insU_mem, List.mem_cons]
        constructor
        · rintro (h | h | h) <;> simp [h]
        · rintro (h | h | h) <;> simp [h]
theorem insU_lt {x : Int} : ∀ {l : List Int}, l.Pairwise (· < ·) → (insU x l).Pairwise (· < ·)
  | [], _ => by simp [insU]
  | y :: r, h => by
    rw [List.pairwise_cons] at h
    unfold insU
    split
    · rename_i hx
      rw [List.pairwise_cons]
      refine ⟨fun z hz => ?_, List.pairwise_cons.mpr h⟩
      rcases List.mem_cons.mp hz with rfl | hz
      · exact hx
      · exact Int.lt_trans hx (h.1 z hz)
    · split
      · exact List.pairwise_cons.mpr h
      · rw [List.pairwise_cons]
        refine ⟨fun z hz => ?_, insU_lt h.2⟩
        rcases insU_mem.mp hz with rfl | hz
        · omega
        · exact h.1 z hz
theorem sortU_mem {z : Int} : ∀ {ns : List Int}, z ∈ sortU ns ↔ z ∈ ns
  | [] => Iff.rfl
  | x :: ns => by
    show z ∈ insU x (sortU ns) ↔ _
    rw [insU_mem, sortU_mem, List.mem_cons]
theorem sortU_lt : ∀ {ns : List Int}, (sortU ns).Pairwise (· < ·)
  | [] => List.Pairwise.nil
  | _ :: _ => insU_lt sortU_lt
theorem lt_unique : ∀ {a b : List Int}, a.Pairwise (· < ·) → b.Pairwise (· < ·) → (∀ z, z ∈ a ↔ z ∈ b) → a = b
  | [], [], _, _, _ => rfl
  | [], y :: b, _, _, h => by have := (h y).mpr (List.mem_cons_self ..); cases this
  | x :: a, [], _, _, h => by have := (h x).mp (List.mem_cons_self ..); cases this
  | x :: a, y :: b, ha, hb, h => by
    rw [List.pairwise_cons] at ha hb
    have hxy : x = y := by
      rcases List.mem_cons.mp ((h x).mp (List.mem_cons_self ..)) with e | e
      · exact e
      · rcases List.mem_cons.mp ((h y).mpr (List.mem_cons_self ..)) with e2 | e2
        · exact e2.symm
        · have h1 := hb.1 x e
          have h2 := ha.1 y e2
          omega
    subst hxy
    congr 1
    refine lt_unique ha.2 hb.2 fun z => ?_
    constructor
    · intro hz
      rcases List.mem_cons.mp ((h z).mp (List.mem_cons_of_mem _ hz)) with e | e
      · have := ha.1 z hz; omega
      · exact e
    · intro hz
      rcases List.mem_cons.mp ((h z).mpr (List.mem_cons_of_mem _ hz)) with e | e
      · have := hb.1 z hz; omega
      · exact e
end
end M

namespace M
open PySem PySem.Spec PyProof.Rows L2
section
variable {X : Cx} {W : XW}
/-- sorted(set(e)) of a fresh list of ints -/
def mSortSet (m : En → Sto → Rs (List D)) : En → Sto → Rs D := fun E S => (m E S).bind fun ds S1 => match toInts ds with
  | some ns => if ns.length < 64 then .ok (.ref S1.length) (S1 ++ [.lst ((sortU ns).map .int)]) else .bad
  | none => .bad
theorem me_sortSet {e : Expr} {m : En → Sto → Rs (List D)} {p p2 pos pos2 : Pos} (hc : X.calm = true) (hg : Gl X "sorted") (hm : X.mg "sorted" = none) (hg2 : Gl X "set") (hm2 : X.mg "set" = none) (ha : TL X W e m)
    (he : starEach [e] X.env = (false, eval e X.env) :: starEach [] X.env := by rfl) (hpl : (backTo pos2 (starEach [] X.env)).any (·.1) = false := by rfl)
    (he1 : starEach [.Call (.Name "set" p2) [e] [] pos2] X.env = (false, eval (.Call (.Name "set" p2) [e] [] pos2) X.env) :: starEach [] X.env := by rfl) (hpl1 : (backTo pos (starEach [] X.env)).any (·.1) = false := by rfl) :
    ME X W (.Call (.Name "sorted" p) [.Call (.Name "set" p2) [e] [] pos2] [] pos) (mSortSet m) :=
  PE.imp (pe_callB (cr_sortedSet hc) hg hm (by decide +kernel) (pa_cons (pe_callTy (cr_setL hc) hg2 hm2 (by decide +kernel) (pa_cons ha pa_nil he) (by decide) (by decide) he hpl) pa_nil he1) (by decide) (by decide) he1 hpl1) fun σ H Q q => by
    obtain ⟨p, S, E, hs, he, q⟩ := q
    refine ⟨p, S, E, hs, he, post_mono (fun ds S1 p1 H1 x1 hs1 q1 a vs ha hz rv => ?_) (post_bind q)⟩
    split at q1
    · rename_i ns hn
      split at q1
      · rename_i hl
        rw [toInts_eq hn] at rv
        have ev := ints_read rv
        subst ev
        have hb : ns.length + 1 < scanBound := by unfold scanBound; omega
        refine ⟨a, ns, rfl, .inl (.of upd_same), hb, fun b c hb0 hcl => ?_⟩
        have hab : b ≠ a := fun z => by rw [z, upd_same] at hb0; cases hb0
        have hb1 : H1 b = none := by rw [upd_ne hab] at hb0; exact hb0
        refine ⟨b, _, c, rfl, upd_same, by omega, fun zs l h1 h2 h3 hl0 => ?_⟩
        have ez : zs = sortU ns := lt_unique h1 sortU_lt fun z => by rw [h2, sortU_mem]; simp
        subst ez
        have hx1 : Ext (gX X) p1 H1 p1 (upd H1 a (.lst (ns.map V.int))) := Ext.new ha
        have hx2 : Ext (gX X) p1 (upd H1 a (.lst (ns.map V.int))) p1 (upd (upd H1 a (.lst (ns.map V.int))) b (SetO X.w b (fun j => decide (j ∈ ns)) c)) := Ext.new hb0
        exact new_obj ((hs1.frame ha).frame hb0) (o := .lst ((sortU ns).map .int)) ⟨_, rfl, rds_ints _⟩ (post_base (hx1.trans hx2) q1) hl0
      · exact q1.elim
    · exact q1.elim
end
end M

namespace M
open PySem L2
/-! ### dicts by tuples -/
mutual
def toNK : D → Option NestedKey
  | .non => some .none
  | .int i => some (.num i)
  | .str x => some (.text x)
  | .tup ds => (toNKs ds).map .tup
  | .bl _ => none
  | .ref _ => none
  | .raw _ => none
  | .rl _ => none
  | .ptp _ => none
def toNKs : List D → Option (List NestedKey)
  | [] => some []
  | d :: ds => (toNK d).bind fun k => (toNKs ds).map (k :: ·)
end
mutual
theorem toNK_eq : ∀ {d : D} {k : NestedKey}, toNK d = some k → nkD k = d
  | .non, k, h => by cases h; rfl
  | .int i, k, h => by cases h; rfl
  | .str x, k, h => by cases h; rfl
  | .tup ds, k, h => by
    obtain ⟨ks, h1, rfl⟩ := Option.map_eq_some_iff.mp (show (toNKs ds).map .tup = some k from h)
    show D.tup (nkDs ks) = _
    rw [toNKs_eq h1]
  | .bl _, k, h => by cases h
  | .ref _, k, h => by cases h
  | .raw _, k, h => by cases h
  | .rl _, k, h => by cases h
  | .ptp _, k, h => by cases h
theorem toNKs_eq : ∀ {ds : List D} {ks : List NestedKey}, toNKs ds = some ks → nkDs ks = ds
  | [], ks, h => by cases h; rfl
  | d :: ds, ks, h => by
    obtain ⟨k, h1, h2⟩ := Option.bind_eq_some_iff.mp (show (toNK d).bind (fun k => (toNKs ds).map (k :: ·)) = some ks from h)
    obtain ⟨r, h3, rfl⟩ := Option.map_eq_some_iff.mp h2
    show nkD k :: nkDs r = _
    rw [toNK_eq h1, toNKs_eq h3]
end
section
variable {X : Cx} {W : XW} {pins : List (Addr × Obj)} {σ : St} {H : Hp} {s : Shared}
mutual
theorem key_nested (I : Inv X pins σ H s) {p : List Addr} : ∀ {k : NestedKey} {v : V} {u : Value}, RD (gX X) p H (nkD k) v → RelV v u → NestedIs s.heap k u
  | .none, v, u, h, r => by
    cases (show v = V.non from h)
    cases (show u = Value.none from r)
    exact .none
  | .num i, v, u, h, r => by
    cases (show v = V.int i from h)
    obtain ⟨t, rfl⟩ := r
    exact .int i t
  | .text x, v, u, h, r => by
    cases (show v = V.str x from h)
    obtain ⟨t, rfl⟩ := r
    exact .text x t
  | .tup ks, v, u, h, r => by
    obtain ⟨a, vs, rfl, hq, rs⟩ := h
    cases (show u = Value.ref a from r)
    obtain ⟨its, rv, ⟨o, e, c, n, dd⟩, _⟩ := I.tuple hq
    exact .tup e c dd (by simpa using keys_nested I rs rv)
theorem keys_nested (I : Inv X pins σ H s) {p : List Addr} : ∀ {ks : List NestedKey} {vs : List V} {us : List Value}, RDs (gX X) p H (nkDs ks) vs → Vals vs us → NestedAll s.heap ks us
  | [], vs, us, h, r => by
    cases (show vs = [] from h)
    cases r
    exact .nil
  | k :: ks, vs, us, h, r => by
    obtain ⟨v, rest, rfl, h1, h2⟩ := h
    cases r with
    | cons r1 r2 => exact .cons (key_nested I h1 r1) (keys_nested I h2 r2)
end
/-- at a stands a dict by tuples (an empty one is one, too) -/
def NAt (X : Cx) (H : Hp) (a : Addr) (xs : List (NestedKey × Addr × V)) : Prop :=
  (Rd H a (DictN X.prog X.w a xs) ∧ ∀ x ∈ xs, ∃ p, RD (gX X) p H (nkD x.1) (.ref x.2.1)) ∨ (xs = [] ∧ Rd H a (.dK []))
abbrev PairN (x : NestedKey × Addr × V) (y : NestedKey × Addr × Value) : Prop := x.1 = y.1 ∧ x.2.1 = y.2.1 ∧ RelV x.2.2 y.2.2
theorem pair_mem {α β : Type} {G : α → β → Prop} {l : List α} {m : List β} (h : Paired G l m) : ∀ y ∈ m, ∃ x ∈ l, G x y := by
  induction h with
  | nil => intro y hy; cases hy
  | cons r t ih =>
    intro y hy
    rcases List.mem_cons.mp hy with rfl | hy
    · exact ⟨_, List.mem_cons_self .., r⟩
    · obtain ⟨x, hx, g⟩ := ih y hy
      exact ⟨x, List.mem_cons_of_mem _ hx, g⟩
theorem pair_keys {xs : List (NestedKey × Addr × V)} {ys : List (NestedKey × Addr × Value)} (h : Paired PairN xs ys) : ys.map (·.1) = xs.map (·.1) := by
  induction h with
  | nil => rfl
  | cons r t ih => simp [r.1, ih]
theorem NAt.full {a : Addr} {xs : List (NestedKey × Addr × V)} (I : Inv X pins σ H s) (h : NAt X H a xs) : (a == sysModules) = false ∧ xs.length ≤ sizeLine ∧ (∀ x ∈ xs, x.1.depth ≤ 8) ∧ (xs.map (·.1)).Nodup ∧
    ∃ ys, Paired PairN xs ys ∧ s.heap.DictOfH (nestedKind X.prog X.w) a ys := by
  rcases h with ⟨h, hk⟩ | ⟨rfl, h⟩
  · have x : ObjOk X.prog X.w H s.heap a (DictN X.prog X.w a xs) := rd_of I.hok h
    obtain ⟨⟨l, sm, dp, nd, ys, o, es, ep, pr, g, ex, dt, el⟩, _⟩ := x
    have nd' : (ys.map (·.1)).Nodup := by rw [pair_keys pr]; exact nd
    refine ⟨sm, l, dp, nd, ys, pr, o, es, ep, g, ex, dt, el, fun y hy => ?_, nd'⟩
    obtain ⟨x, hx, e1, e2, _⟩ := pair_mem pr y hy
    obtain ⟨p, r⟩ := hk x hx
    rw [← e1, ← e2]
    exact ⟨key_nested I r rfl, dp x hx⟩
  · obtain ⟨z, sm, vs, kv, dd⟩ := dk_rd I.hok h
    cases kv
    obtain ⟨o, es, ep, g, ex, dt, q⟩ := dd
    have e0 : es.toList = [] := by
      have := q.2.1.length
      exact List.length_eq_zero_iff.mp this
    exact ⟨sm, Nat.zero_le _, (fun _ z => by cases z), List.nodup_nil, [], .nil, o, es, ep, g, ex, dt, e0, (fun _ z => by cases z), List.nodup_nil⟩
def lookX (xs : List (NestedKey × Addr × V)) (k : NestedKey) : Option V := (xs.find? fun x => decide (x.1 = k)).map (·.2.2)
theorem look_pair {xs : List (NestedKey × Addr × V)} {ys : List (NestedKey × Addr × Value)} {k : NestedKey} (h : Paired PairN xs ys) : (∀ v, lookX xs k = some v → ∃ q, atKey ys k = some q ∧ RelV v q.2) ∧ (lookX xs k = none → atKey ys k = none) := by
  induction h with
  | nil => exact ⟨(fun v z => by cases z), fun _ => rfl⟩
  | @cons x y l m r t ih =>
    by_cases hk : x.1 = k
    · have e1 : lookX (x :: l) k = some x.2.2 := by unfold lookX; rw [List.find?_cons]; simp [hk]
      have e2 : atKey (y :: m) k = some y.2 := by unfold atKey; rw [List.find?_cons]; simp [← r.1, hk]
      rw [e1, e2]
      exact ⟨fun v z => by cases z; exact ⟨_, rfl, r.2.2⟩, fun z => by cases z⟩
    · have e1 : lookX (x :: l) k = lookX l k := by unfold lookX; rw [List.find?_cons]; simp [hk]
      have e2 : atKey (y :: m) k = atKey m k := by unfold atKey; rw [List.find?_cons]; simp [← r.1, hk]
      rw [e1, e2]
      exact ih
/-- a key of a dict by tuples -/
def KeyN (X : Cx) (H : Hp) (k : NestedKey) (b : Addr) : Prop := k.depth ≤ 8 ∧ ∃ p, RD (gX X) p H (nkD k) (.ref b)
theorem KeyN.is {k : NestedKey} {b : Addr} (I : Inv X pins σ H s) (h : KeyN X H k b) : (nestedKind X.prog X.w).is s.heap k b := by
  obtain ⟨d, p, r⟩ := h
  exact ⟨key_nested I r rfl, d⟩
theorem room_n (hu : X.A.units + 64 < cLine) : (nestedKind X.prog X.w).room X.A.in1 := by
  show X.A.in1.units + 8 < cLine
  have : X.A.in1.units = X.A.units + 1 := rfl
  omega
/-! d[k] -/
def rIxN (X : Cx) : R2 := fun x y H Q => ∃ a xs k b v, x = .ref a ∧ NAt X H a xs ∧ y = .ref b ∧ KeyN X H k b ∧ lookX xs k = some v ∧ Q v H
theorem ix_n (hu : X.A.units + 64 < cLine) : IxR X (rIxN X) := by
  intro value slice pins s σ H x y v u Q I rx ry h hs
  obtain ⟨a, xs, k, b, w, rfl, hn, rfl, hk, hl, q⟩ := h
  obtain rfl : v = Value.ref a := rx
  obtain rfl : u = Value.ref b := ry
  obtain ⟨sm, l, _, _, ys, pr, dd⟩ := hn.full I
  obtain ⟨c, hc, rc⟩ := (look_pair (k := k) pr).1 w hl
  exact PyProof.Rows.tail_any dd.typeIs PySem.F.slot_dict_getitem.lookup (wpAny_getItem_heap (room_n hu) (hk.is I) dd hc ⟨w, H, I.tok _, rc, q⟩) hs
/-! in, not in -/
def rInN (X : Cx) (neg : Bool) : R2 := fun y x H Q => ∃ a xs k b, x = .ref a ∧ NAt X H a xs ∧ y = .ref b ∧ KeyN X H k b ∧ Q (.bl (if neg then !(lookX xs k).isSome else (lookX xs k).isSome)) H
theorem look_isSome {xs : List (NestedKey × Addr × V)} {ys : List (NestedKey × Addr × Value)} {k : NestedKey} (h : Paired PairN xs ys) : (atKey ys k).isSome = (lookX xs k).isSome := by
  obtain ⟨h1, h2⟩ := look_pair (k := k) h
  cases hq : lookX xs k with
  | none => rw [h2 hq]; rfl
  | some v => obtain ⟨q, e, _⟩ := h1 v hq; rw [e]; rfl
theorem in_n (hu : X.A.units + 64 < cLine) : OpR X (compareOp .In) (rInN X false) := by
  intro pins s σ H y x u v Q I ry rx h
  obtain ⟨a, xs, k, b, rfl, hn, rfl, hk, q⟩ := h
  obtain rfl : v = Value.ref a := rx
  obtain rfl : u = Value.ref b := ry
  obtain ⟨sm, l, _, _, ys, pr, dd⟩ := hn.full I
  refine wpAny_in_heap (room_n hu) (hk.is I) sm dd ⟨.bl (lookX xs k).isSome, H, I.tok _, ?_, q⟩
  rw [look_isSome pr]; rfl
theorem notin_n (hu : X.A.units + 64 < cLine) : OpR X (compareOp .NotIn) (rInN X true) := by
  intro pins s σ H y x u v Q I ry rx h
  obtain ⟨a, xs, k, b, rfl, hn, rfl, hk, q⟩ := h
  obtain rfl : v = Value.ref a := rx
  obtain rfl : u = Value.ref b := ry
  obtain ⟨sm, l, _, _, ys, pr, dd⟩ := hn.full I
  refine notIn_keyed (room_n hu) (hk.is I) sm ⟨ys, dd, rfl⟩ ⟨.bl (!(lookX xs k).isSome), H, I.tok _, ?_, q⟩
  rw [valueAt_pairsH, Option.isSome_map, look_isSome pr]; rfl
/-! d.get(k, z) -/
def tGetN (X : Cx) (td ty tx : TE) : TE := fun σ H Q => td σ H fun x H1 => ∃ a, x = .ref a ∧ (∃ xs, NAt X H1 a xs) ∧ ty σ H1 fun y H2 => tx σ H2 fun z H3 => ∃ xs k b, NAt X H3 a xs ∧ y = .ref b ∧ KeyN X H3 k b ∧ Q ((lookX xs k).getD z) H3
theorem pe_getN {o e f : Expr} {apos cpos : Pos} {td ty tx : TE} (hu : X.A.units + 64 < cLine) (ho : PE X o td) (he : PE X e ty) (hf : PE X f tx) (m : M2 X o "get" apos e f cpos) : PE X (.Call (.Attribute o "get" apos) [e, f] [] cpos) (tGetN X td ty tx) := by
  refine ⟨fun pins s σ H Q I h => ?_⟩
  refine wpAny_Call_method m.base m.few m.line PySem.F.plainAttrs_dict PySem.F.slot_dict_get PySem.F.type_dict_get (thn (ho.run pins s σ H _ I h) fun u s1 ⟨x, H1, I1, rx, a, ex, ⟨xs, hn⟩, q1⟩ => ?_)
  subst ex
  obtain rfl : u = Value.ref a := rx
  obtain ⟨sm, l, _, _, ys, pr, dd⟩ := hn.full I1
  refine ⟨dd.typeIs, ?_, ?_⟩
  · obtain ⟨o, es, ep, g, ex, _⟩ := dd
    exact fun a1 z => by cases z; exact ⟨o, g, ex.2.1⟩
  rw [m.trees]
  refine Calls.callWith_builtin rfl (Calls.evalArgs_plain (Calls.spliced_cons (thn (he.run pins s1 σ H1 _ I1 q1) fun iv s2 ⟨y, H2, I2, ry, q2⟩ => Calls.spliced_cons (thn (hf.run pins s2 σ H2 _ I2 q2) fun fv s3 ⟨z, H3, I3, rz, xs, k, b, hn3, ey, hk, q3⟩ => Calls.spliced_nil ?_))))
  subst ey
  obtain rfl : iv = Value.ref b := ry
  obtain ⟨sm, l, _, _, ys, pr, dd⟩ := hn3.full I3
  refine getOr_keyed (room_n hu) (hk.is I3) sm ⟨ys, dd, rfl⟩ ⟨(lookX xs k).getD z, H3, I3.tok _, ?_, q3⟩
  rw [valueAt_pairsH]
  obtain ⟨h1, h2⟩ := look_pair (k := k) pr
  cases hq : lookX xs k with
  | none => rw [h2 hq]; exact rz
  | some v => obtain ⟨q, e, r⟩ := h1 v hq; rw [e]; exact r
/-! d[k] = v -/
def setX (xs : List (NestedKey × Addr × V)) (k : NestedKey) (b : Addr) (v : V) : List (NestedKey × Addr × V) :=
  if (lookX xs k).isSome = true then xs.map (fun x => if x.1 = k then (x.1, x.2.1, v) else x) else xs ++ [(k, b, v)]
theorem put_pair {xs : List (NestedKey × Addr × V)} {ys : List (NestedKey × Addr × Value)} {k : NestedKey} {v : V} {u : Value} (h : Paired PairN xs ys) (r : RelV v u) : Paired PairN (xs.map (fun x => if x.1 = k then (x.1, x.2.1, v) else x)) (ys.map (putAt k u)) := by
  induction h with
  | nil => exact .nil
  | @cons x y l m g t ih =>
    rw [List.map_cons, List.map_cons]
    refine .cons ?_ ih
    unfold putAt
    by_cases hk : x.1 = k
    · rw [if_pos hk, if_pos (by rw [← g.1]; exact hk)]
      exact ⟨g.1, g.2.1, r⟩
    · rw [if_neg hk, if_neg (by rw [← g.1]; exact hk)]
      exact g
theorem snoc_pair {xs : List (NestedKey × Addr × V)} {ys : List (NestedKey × Addr × Value)} {k : NestedKey} {b : Addr} {v : V} {u : Value} (h : Paired PairN xs ys) (r : RelV v u) : Paired PairN (xs ++ [(k, b, v)]) (ys ++ [(k, b, u)]) := by
  induction h with
  | nil => exact .cons ⟨rfl, rfl, r⟩ .nil
  | cons g t ih => exact .cons g ih
theorem setX_pair {xs : List (NestedKey × Addr × V)} {ys : List (NestedKey × Addr × Value)} {k : NestedKey} {b : Addr} {v : V} {u : Value} (h : Paired PairN xs ys) (r : RelV v u) : Paired PairN (setX xs k b v) (storedH ys k b u) := by
  have e := look_isSome (k := k) h
  unfold setX storedH
  rw [e]
  split
  · exact put_pair h r
  · exact snoc_pair h r
theorem lookX_none {xs : List (NestedKey × Addr × V)} {k : NestedKey} : (lookX xs k).isSome = true ↔ k ∈ xs.map (·.1) := by
  unfold lookX
  rw [Option.isSome_map, List.find?_isSome]
  constructor
  · rintro ⟨x, hx, e⟩
    exact List.mem_map.mpr ⟨x, hx, of_decide_eq_true e⟩
  · intro h
    obtain ⟨x, hx, e⟩ := List.mem_map.mp h
    exact ⟨x, hx, decide_eq_true e⟩
theorem setX_keys {xs : List (NestedKey × Addr × V)} {k : NestedKey} {b : Addr} {v : V} : (setX xs k b v).map (·.1) = if k ∈ xs.map (·.1) then xs.map (·.1) else xs.map (·.1) ++ [k] := by
  unfold setX
  by_cases h : k ∈ xs.map (·.1)
  · rw [if_pos (lookX_none.mpr h), if_pos h, List.map_map]
    refine List.map_congr_left fun x _ => ?_
    show (if x.1 = k then (x.1, x.2.1, v) else x).1 = x.1
    split <;> rfl
  · rw [if_neg (fun z => h (lookX_none.mp z)), if_neg h, List.map_append]; rfl
theorem setX_len {xs : List (NestedKey × Addr × V)} {k : NestedKey} {b : Addr} {v : V} : (setX xs k b v).length ≤ xs.length + 1 := by
  unfold setX; split <;> simp
def rSetN (X : Cx) : TSet := fun o i v H Q => ∃ a xs k b, o = .ref a ∧ NAt X H a xs ∧ (∀ ob u, H a ≠ some (.frz ob u)) ∧ i = .ref b ∧ KeyN X H k b ∧ xs.length < sizeLine ∧ Q (upd H a (DictN X.prog X.w a (setX xs k b v)))
theorem set_n (hu : X.A.units + 64 < cLine) : PSet X (rSetN X) := by
  intro pins s σ H o i v ov iv u Q I ro ri rv h
  obtain ⟨a, xs, k, b, rfl, hn, hfz, rfl, hk, hl, q⟩ := h
  obtain rfl : ov = Value.ref a := ro
  obtain rfl : iv = Value.ref b := ri
  obtain ⟨sm, l, dp, nd, ys, pr, dd⟩ := hn.full I
  have hz : ys.length ≤ sizeLine := by rw [← pair_len pr]; exact l
  have mu : Mut (H a) := by
    rcases hn with ⟨h1 | ⟨ob, h1⟩, _⟩ | ⟨_, h1 | ⟨ob, h1⟩⟩
    · rw [h1]; exact True.intro
    · exact absurd h1 (hfz _ _)
    · rw [h1]; exact True.intro
    · exact absurd h1 (hfz _ _)
  refine wpAny_setItem_heap (hsz := hz) (room_n hu) (hk.is I) dd fun h' dd' hs => ⟨_, ?_, q⟩
  obtain ⟨qo, es, ep, hq, h2, h3, h4, _, h5⟩ := dd'
  refine I.write (x := a) (e := a) mu (.inl rfl) (fun c ob hc e => (hs.2 c hc).trans e) ⟨qo, hq⟩ ⟨⟨?_, sm, fun x hx => ?_, ?_, _, qo, es, ep, setX_pair pr rv, hq, h2, h3, h4⟩, ⟨qo, hq⟩, fun h1 h2 x k => ?_⟩
  · have := setX_len (xs := xs) (k := k) (b := b) (v := v); omega
  · have hx1 : x.1 ∈ (setX xs k b v).map (·.1) := List.mem_map.mpr ⟨x, hx, rfl⟩
    rw [setX_keys] at hx1
    split at hx1
    · obtain ⟨y, hy, e⟩ := List.mem_map.mp hx1
      rw [← e]; exact dp y hy
    · rcases List.mem_append.mp hx1 with hx1 | hx1
      · obtain ⟨y, hy, e⟩ := List.mem_map.mp hx1
        rw [← e]; exact dp y hy
      · rw [List.mem_singleton.mp hx1]; exact hk.1
  · rw [setX_keys]
    split
    · exact nd
    · rename_i hnk
      rw [List.nodup_append]
      exact ⟨nd, by simp, fun c hc d hd z => hnk (by rw [List.mem_singleton] at hd; rw [← hd, ← z]; exact hc)⟩
  · obtain ⟨a1, a2, a3, a4, ys', o', es', ep', b1, b2, b3, b4, b5⟩ := x
    exact ⟨a1, a2, a3, a4, ys', o', es', ep', b1, k _ b2, b3, b4, b5⟩
end
end M

namespace M
open PySem L2
def getN (kvs : List (NestedKey × D)) (k : NestedKey) : Option D := (kvs.find? fun kv => decide (kv.1 = k)).map (·.2)
def setN (kvs : List (NestedKey × D)) (k : NestedKey) (d : D) : List (NestedKey × D) :=
  if (getN kvs k).isSome = true then kvs.map (fun kv => if kv.1 = k then (kv.1, d) else kv) else kvs ++ [(k, d)]
/-- the key that a datum is -/
def keyN (d : D) : Option NestedKey := match d with
  | .tup ds => (toNK (.tup ds)).bind fun k => if k.depth ≤ 8 then some k else none
  | _ => none
/-- the dict by tuples that a datum is -/
def nOf (S : Sto) (d : D) : Option (Nat × List (NestedKey × D)) := match d with
  | .ref n => match S[n]? with
    | some (.dn kvs) => some (n, kvs)
    | some (.fn kvs) => some (n, kvs)
    | some (.dk []) => some (n, [])
    | some (.fd []) => some (n, [])
    | _ => none
  | _ => none
section
variable {K : KX} {p : List Addr} {H : Hp}
abbrev GN (K : KX) (p : List Addr) (H : Hp) (kv : NestedKey × D) (x : NestedKey × Addr × V) : Prop := kv.1 = x.1 ∧ RD K p H kv.2 x.2.2 ∧ RD K p H (nkD kv.1) (.ref x.2.1)
theorem RNs.pair : ∀ {kvs : List (NestedKey × D)} {xs : List (NestedKey × Addr × V)}, RNs K p H kvs xs → Paired (GN K p H) kvs xs
  | [], [], _ => .nil
  | [], _ :: _, h => by cases h.1
  | _ :: _, [], h => by cases h.1
  | kv :: kvs, x :: xs, h => by
    obtain ⟨h1, h2, h3⟩ := h
    rw [List.map_cons, List.map_cons] at h1 h2 h3
    obtain ⟨v, r, e, a1, a2⟩ := h2
    obtain ⟨v', r', e', b1, b2⟩ := h3
    cases e; cases e'
    injection h1 with c1 c2
    exact .cons ⟨c1, a1, b1⟩ (RNs.pair ⟨c2, a2, b2⟩)
theorem RNs.of {kvs : List (NestedKey × D)} {xs : List (NestedKey × Addr × V)} (h : Paired (GN K p H) kvs xs) : RNs K p H kvs xs := by
  induction h with
  | nil => exact ⟨rfl, rfl, rfl⟩
  | @cons kv x l m g t ih => exact ⟨by rw [List.map_cons, List.map_cons, g.1, ih.1], ⟨_, _, rfl, g.2.1, ih.2.1⟩, ⟨_, _, rfl, g.2.2, ih.2.2⟩⟩
theorem gn_look {kvs : List (NestedKey × D)} {xs : List (NestedKey × Addr × V)} {k : NestedKey} (h : Paired (GN K p H) kvs xs) : (∀ d, getN kvs k = some d → ∃ v, lookX xs k = some v ∧ RD K p H d v) ∧ (getN kvs k = none → lookX xs k = none) := by
  induction h with
  | nil => exact ⟨(fun v z => by cases z), fun _ => rfl⟩
  | @cons x y l m r t ih =>
    by_cases hk : x.1 = k
    · have e1 : getN (x :: l) k = some x.2 := by unfold getN; rw [List.find?_cons]; simp [hk]
      have e2 : lookX (y :: m) k = some y.2.2 := by unfold lookX; rw [List.find?_cons]; simp [← r.1, hk]
      rw [e1, e2]
      exact ⟨fun v z => by cases z; exact ⟨_, rfl, r.2.1⟩, fun z => by cases z⟩
    · have e1 : getN (x :: l) k = getN l k := by unfold getN; rw [List.find?_cons]; simp [hk]
      have e2 : lookX (y :: m) k = lookX m k := by unfold lookX; rw [List.find?_cons]; simp [← r.1, hk]
      rw [e1, e2]
      exact ih
theorem gn_isSome {kvs : List (NestedKey × D)} {xs : List (NestedKey × Addr × V)} {k : NestedKey} (h : Paired (GN K p H) kvs xs) : (lookX xs k).isSome = (getN kvs k).isSome := by
  obtain ⟨h1, h2⟩ := gn_look (k := k) h
  cases hq : getN kvs k with
  | none => rw [h2 hq]; rfl
  | some v => obtain ⟨q, e, _⟩ := h1 v hq; rw [e]; rfl
theorem gn_put {kvs : List (NestedKey × D)} {xs : List (NestedKey × Addr × V)} {k : NestedKey} {b : Addr} {d : D} {v : V} (h : Paired (GN K p H) kvs xs) (rk : RD K p H (nkD k) (.ref b)) (r : RD K p H d v) : Paired (GN K p H) (setN kvs k d) (setX xs k b v) := by
  have e := gn_isSome (k := k) h
  unfold setN setX
  rw [e]
  split
  · clear e
    rename_i hs
    clear hs
    induction h with
    | nil => exact .nil
    | @cons x y l m g t ih =>
      rw [List.map_cons, List.map_cons]
      refine .cons ?_ ih
      by_cases hk : x.1 = k
      · rw [if_pos hk, if_pos (by rw [← g.1]; exact hk)]
        exact ⟨g.1, r, g.2.2⟩
      · rw [if_neg hk, if_neg (by rw [← g.1]; exact hk)]
        exact g
  · clear e
    rename_i hs
    clear hs
    induction h with
    | nil => exact .cons ⟨rfl, r, rk⟩ .nil
    | cons g t ih => exact .cons g ih
end
section
variable {X : Cx} {W : XW} {p : List Addr} {H : Hp} {S : Sto}
theorem keyN_read {d : D} {v : V} {k : NestedKey} (r : RD (gX X) p H d v) (h : keyN d = some k) : ∃ b, v = .ref b ∧ KeyN X H k b ∧ nkD k = d := by
  unfold keyN at h
  split at h
  · rename_i ds
    obtain ⟨k', h1, h2⟩ := Option.bind_eq_some_iff.mp h
    split at h2
    · rename_i hd
      cases h2
      have e := toNK_eq h1
      obtain ⟨a, vs, rfl, q1, q2⟩ := id r
      exact ⟨a, rfl, ⟨hd, p, by rw [e]; exact r⟩, e⟩
    · cases h2
  · cases h
theorem gn_keys {kvs : List (NestedKey × D)} {xs : List (NestedKey × Addr × V)} (h : RNs (gX X) p H kvs xs) : ∀ x ∈ xs, ∃ p, RD (gX X) p H (nkD x.1) (.ref x.2.1) := fun x hx => by
  obtain ⟨kv, _, g⟩ := pair_mem h.pair x hx
  exact ⟨p, by rw [← g.1]; exact g.2.2⟩
theorem nOf_read {d : D} {v : V} {n : Nat} {kvs : List (NestedKey × D)} (hs : RS (gX X) p S H) (r : RD (gX X) p H d v) (h : nOf S d = some (n, kvs)) : ∃ a xs, v = .ref a ∧ p[n]? = some a ∧ NAt X H a xs ∧ RNs (gX X) p H kvs xs := by
  unfold nOf at h
  split at h
  · rename_i m
    obtain ⟨a, ea, rfl⟩ := r
    split at h
    · rename_i kvs' hd
      cases h
      obtain ⟨x, ex, xs, rfl, rn⟩ := hs.get n a _ ea hd
      exact ⟨a, xs, rfl, ea, .inl ⟨.inl ex, gn_keys rn⟩, rn⟩
    · rename_i kvs' hd
      cases h
      obtain ⟨x, ex, ob, xs, rfl, rn⟩ := hs.get n a _ ea hd
      exact ⟨a, xs, rfl, ea, .inl ⟨.inr ⟨ob, ex⟩, gn_keys rn⟩, rn⟩
    · rename_i hd
      cases h
      obtain ⟨x, ex, ws, rfl, rk⟩ := hs.get n a _ ea hd
      have : ws = [] := by have := rk.1; simpa using this.symm
      subst this
      exact ⟨a, [], rfl, ea, .inr ⟨rfl, .inl ex⟩, RNs.of .nil⟩
    · rename_i hd
      cases h
      obtain ⟨x, ex, ob, ws, rfl, rk⟩ := hs.get n a _ ea hd
      have : ws = [] := by have := rk.1; simpa using this.symm
      subst this
      exact ⟨a, [], rfl, ea, .inr ⟨rfl, .inr ⟨ob, ex⟩⟩, RNs.of .nil⟩
    · cases h
  · cases h
/-! d[k] -/
def opIxN (x i : D) (S : Sto) : Rs D := match nOf S x, keyN i with
  | some (_, kvs), some k => (match getN kvs k with
    | some d => .ok d S
    | none => .bad)
  | _, _ => .bad
theorem pr_ixN : Prim2 (gX X) W (rIxN X) opIxN := by
  intro p S H x y v u Q hs rx ry q
  unfold opIxN at q
  split at q
  · rename_i n kvs k h1 h2
    split at q
    · rename_i d hd
      obtain ⟨a, xs, rfl, ea, hn, rn⟩ := nOf_read hs rx h1
      obtain ⟨b, rfl, hk, _⟩ := keyN_read ry h2
      obtain ⟨w, e, rw'⟩ := (gn_look rn.pair).1 d hd
      exact ⟨a, xs, k, b, w, rfl, hn, rfl, hk, e, post_ok q hs w rw'⟩
    · exact q.elim
  · exact q.elim
/-! in -/
def opInN (neg : Bool) (y x : D) (S : Sto) : Rs D := match nOf S x, keyN y with
  | some (_, kvs), some k => .ok (.bl (if neg then !(getN kvs k).isSome else (getN kvs k).isSome)) S
  | _, _ => .bad
theorem pr_inN {neg : Bool} : Prim2 (gX X) W (rInN X neg) (opInN neg) := by
  intro p S H y x u v Q hs ry rx q
  unfold opInN at q
  split at q
  · rename_i n kvs k h1 h2
    obtain ⟨a, xs, rfl, ea, hn, rn⟩ := nOf_read hs rx h1
    obtain ⟨b, rfl, hk, _⟩ := keyN_read ry h2
    refine ⟨a, xs, k, b, rfl, hn, rfl, hk, ?_⟩
    rw [gn_isSome rn.pair]
    exact post_ok q hs _ rfl
  · exact q.elim
/-! d.get(k, z) -/
def fGetN (x y z : D) (S : Sto) : Rs D := match nOf S x, keyN y with
  | some (_, kvs), some k => .ok ((getN kvs k).getD z) S
  | _, _ => .bad
def mGetN (ma mb mc : En → Sto → Rs D) : En → Sto → Rs D := fun E S => (ma E S).bind fun x S1 => if (nOf S1 x).isSome then (mb E S1).bind fun y S2 => (mc E S2).bind fun z S3 => fGetN x y z S3 else .bad
theorem me_getN {o e f : Expr} {apos cpos : Pos} {ma mb mc : En → Sto → Rs D} (hu : X.A.units + 64 < cLine) (ho : ME X W o ma) (he : ME X W e mb) (hf : ME X W f mc) (m : M2 X o "get" apos e f cpos) : ME X W (.Call (.Attribute o "get" apos) [e, f] [] cpos) (mGetN ma mb mc) :=
  PE.imp (pe_getN hu ho he hf m) fun σ H Q q => by
    obtain ⟨p, S, E, hs, he, q⟩ := q
    refine lE_step hs he (post_mono (fun x S1 p1 H1 x1 hs1 q1 v rv => ?_) (post_bind q))
    split at q1
    · rename_i hd
      obtain ⟨⟨n, kvs⟩, h1⟩ := Option.isSome_iff_exists.mp hd
      obtain ⟨a, xs, rfl, ea, hn, rn⟩ := nOf_read hs1 rv h1
      refine ⟨a, rfl, ⟨xs, hn⟩, lE_step hs1 (he.mono x1.pre x1.tup) (post_mono (fun y S2 p2 H2 x2 hs2 q2 w rw' => ?_) (post_bind q1))⟩
      refine lE_step hs2 ((he.mono x1.pre x1.tup).mono x2.pre x2.tup) (post_mono (fun z S3 p3 H3 x3 hs3 q3 u ru => ?_) (post_bind q2))
      have rv3 := (rv.mono x2.pre x2.tup).mono x3.pre x3.tup
      have rw3 := rw'.mono x3.pre x3.tup
      unfold fGetN at q3
      split at q3
      · rename_i n' kvs' k g1 g2
        obtain ⟨a', xs', e1, ea', hn', rn'⟩ := nOf_read hs3 rv3 g1
        cases e1
        obtain ⟨b, rfl, hk, _⟩ := keyN_read rw3 g2
        refine ⟨xs', k, b, hn', rfl, hk, post_ok q3 hs3 _ ?_⟩
        obtain ⟨i1, i2⟩ := gn_look (k := k) rn'.pair
        cases hq : getN kvs' k with
        | none => rw [i2 hq]; exact ru
        | some d => obtain ⟨v, e, r⟩ := i1 d hq; rw [e]; exact r
      · exact q3.elim
    · exact q1.elim
/-! d[k] = v -/
def fSetN (o i v : D) (S : Sto) : Rs Unit := match o with
  | .ref n => match S[n]? with
    | some (.dn kvs) => (match keyN i with
      | some k => if kvs.length < sizeLine then .ok () (S.set n (.dn (setN kvs k v))) else .bad
      | none => .bad)
    | some (.dk []) => (match keyN i with
      | some k => .ok () (S.set n (.dn (setN [] k v)))
      | none => .bad)
    | _ => .bad
  | _ => .bad
theorem pr_setN : PrimS (gX X) W (rSetN X) fSetN := by
  intro p S H o i d ov iv v Q hs ro ri rd q
  unfold fSetN at q
  split at q
  · rename_i n
    obtain ⟨a, ea, rfl⟩ := ro
    split at q
    · rename_i kvs hd
      split at q
      · rename_i k hk
        split at q
        · rename_i hl
          obtain ⟨x, ex, xs, rfl, rn⟩ := hs.get n a _ ea hd
          obtain ⟨b, rfl, hkn, hkd⟩ := keyN_read ri hk
          have hlen : kvs.length = xs.length := pair_len rn.pair
          refine ⟨a, xs, k, b, rfl, .inl ⟨.inl ex, gn_keys rn⟩, (fun ob u z => by rw [ex] at z; cases z), rfl, hkn, by rw [← hlen]; exact hl, ?_⟩
          have sf : Safe (DictN X.prog X.w a xs) := .inr (.inl ⟨_, _, _, _, rfl⟩)
          have x1 : Ext (gX X) p H p (upd H a (DictN X.prog X.w a (setX xs k b v))) := Ext.set (mem_of_get ea) ex sf (fun _ _ z => by cases z)
          exact q p _ x1 (hs.set ea hd ex sf ⟨_, rfl, RNs.of (gn_put rn.pair (by rw [hkd]; exact ri) rd)⟩)
        · exact q.elim
      · exact q.elim
    · rename_i hd
      split at q
      · rename_i k hk
        obtain ⟨x, ex, ws, rfl, rk⟩ := hs.get n a _ ea hd
        have : ws = [] := by have := rk.1; simpa using this.symm
        subst this
        obtain ⟨b, rfl, hkn, hkd⟩ := keyN_read ri hk
        have hz : 0 < sizeLine := by decide
        refine ⟨a, [], k, b, rfl, .inr ⟨rfl, .inl ex⟩, (fun ob u z => by rw [ex] at z; cases z), rfl, hkn, hz, ?_⟩
        have x1 : Ext (gX X) p H p (upd H a (DictN X.prog X.w a (setX [] k b v))) := Ext.set (mem_of_get ea) ex (.inl rfl) (fun _ _ z => by cases z)
        exact q p _ x1 (hs.set ea hd ex (.inl rfl) ⟨_, rfl, RNs.of (gn_put (kvs := []) .nil (by rw [hkd]; exact ri) rd)⟩)
      · exact q.elim
    · exact q.elim
  · exact q.elim
/-! min(d.values()) -/
theorem pe_viewN {e : Expr} {td : TE} {apos cpos : Pos} (he : PE X e td) (hbase : attributeBase e "values" X.env (eval e X.env) = eval e X.env := by rfl) (hline : (apos.endLine == cpos.line) = true := by rfl) :
    PE X (.Call (.Attribute e "values" apos) [] [] cpos) (fun σ H Q => td σ H fun x H1 => ∃ d xs, x = .ref d ∧ NAt X H1 d xs ∧ ∀ a, H1 a = none → Q (.ref a) (upd H1 a (ViewO a d))) := by
  refine ⟨fun pins s σ H Q I h => ?_⟩
  refine wpAny_Call_method (T := "dict") (id := "dict.values") hbase rfl hline F.plainAttrs_dict F.slot_dict_values F.type_dict_values (thn (he.run pins s σ H _ I h) fun u s1 ⟨x, H1, I1, rx, d, xs, ex, hn, q⟩ => ?_)
  subst ex
  obtain rfl : u = Value.ref d := rx
  obtain ⟨sm, l, _, _, ys, pr, dd⟩ := hn.full I1
  obtain ⟨o, es, ep, g0, ex0, dt0, r0⟩ := id dd
  refine ⟨dd.typeIs, fun a1 z => by cases z; exact ⟨o, g0, ex0.2.1⟩, ?_⟩
  have hnn : H1 s1.heap.objs.size = none := I1.hok.fresh (Nat.le_refl _)
  have g : (s1.heap.push { cls := .type "dict_values", data := .fields #[.ref d] }).get? s1.heap.objs.size = some { cls := .type "dict_values", data := .fields #[.ref d] } := Heap.get?_push_size _ rfl
  have I2 : Inv X pins σ (upd H1 s1.heap.objs.size (ViewO s1.heap.objs.size d)) { s1 with heap := s1.heap.push { cls := .type "dict_values", data := .fields #[.ref d] } } := I1.laid (t' := s1.toks) (fun b ob q => Heap.get?_push_of_some _ q) (Nat.le_refl _)
    ⟨g, ⟨_, g⟩, fun h1 h2 e1 k => k _ e1⟩
  have fin : EP X pins σ Q (.ref s1.heap.objs.size) { s1 with heap := s1.heap.push { cls := .type "dict_values", data := .fields #[.ref d] } } := ⟨.ref s1.heap.objs.size, _, I2, rfl, q _ hnn⟩
  show wpAny _ _ (callWith cpos (.builtin "dict.values") [.ref d] [] []) _ X.xe s1
  exact method_meetsIn F.slot_dict_values F.entry_dict_values rfl (PySem.evalArgs_none ⟨rfl, dd.typeIs, F.args_dict_values_1 _, _, meets_dict_values_raw d sm, ⟨es, ep, o, g0, ex0, dt0⟩, fin⟩)
end
end M

namespace M
open PySem L2 PySem.Spec PyProof.Rows
section
variable {X : Cx} {W : XW}
/-! min(d.values()), d by tuples -/
def rMinVN (X : Cx) : List V → Hp → VK → Prop := fun vs H Q => ∃ a d xs ns, vs = [.ref a] ∧ H a = some (ViewO a d) ∧ NAt X H d xs ∧ xs.map (·.2.2) = List.map V.int ns ∧ 0 < ns.length ∧ ∀ m, m ∈ ns → (∀ y, y ∈ ns → m ≤ y) → Q (.int m) H
theorem cr_minVN (hc : X.calm = true) : CallR X (.builtin "min") (rMinVN X) := by
  intro pins s σ H vs us Q I r h
  obtain ⟨a, d, xs, ns, rfl, ha, hn, hns, hpos, q⟩ := h
  rw [Vals.ref1 r]
  obtain ⟨sm, l, _, _, ys, pr, dd⟩ := hn.full I
  obtain ⟨o, es, ep, g0, ex0, dt0, el, _⟩ := id dd
  obtain ⟨hv, _, _⟩ := I.hok a _ ha
  have hlen := pair_len pr
  have hln : xs.length = ns.length := by have := congrArg List.length hns; simpa using this
  have hes : es.size = ys.length := by rw [← Array.length_toList, el, List.length_map]
  have hdl : d < s.heap.objs.size := Heap.lt_size g0
  have hraw : s.heap.DictRaw d es ep := ⟨o, g0, ex0, dt0⟩
  have val : ∀ i v, (∃ hi : i < es.size, v = es[i].val) → ∃ t, v = Value.int (ns.getD i 0) t := fun i v ⟨hi, hk⟩ => by
    have hix : i < xs.length := by omega
    obtain ⟨y, hy, _, _, ry⟩ := pair_at pr (i := i) (a := xs[i]) (by simp [hix])
    have e1 : es[i] = entryOfKey (nestedKind X.prog X.w) y := by
      have h1 : es.toList[i]? = some es[i] := by rw [Array.getElem?_toList]; simp [hi]
      rw [el, List.getElem?_map, hy] at h1
      exact (Option.some.inj h1).symm
    have e2 : (xs.map (·.2.2))[i]? = some (xs[i]).2.2 := by rw [List.getElem?_map]; simp [hix]
    rw [hns, List.getElem?_map] at e2
    cases hq : ns[i]? with
    | none => rw [hq] at e2; cases e2
    | some n =>
      rw [hq] at e2
      have e3 : V.int n = (xs[i]).2.2 := by simpa using e2
      rw [← e3] at ry
      obtain ⟨t, et⟩ := ry
      exact ⟨t, by rw [hk, e1]; show y.2.2 = _; rw [et]; simp [hq]⟩
  refine call_min_walk (wpAny_pyIter_values_raw (d := d) ⟨_, hv, rfl, rfl⟩ hraw ?_)
  have hdI : d ≠ s.heap.objs.size := Nat.ne_of_lt hdl
  refine ⟨_, _, _, _, _, _, _, rfl, Walks.rawValues (prog := X.prog) (w := X.w) (A := X.A.in1) (I.ok.hd hc) s.heap.objs.size d hdI es ep, ⟨⟨_, Heap.get?_push_size _ rfl, rfl, rfl⟩, hraw.push _⟩, fun b hb => ?_, by omega, CmpOf.ints_lt (fun i => ns.getD i 0) val, fun v h' tk hP hk => ?_⟩
  · show b < (s.heap.push _).objs.size
    rw [Heap.size_push]
    have e' : b = s.heap.objs.size ∨ b = d := by simpa using hb
    rcases e' with rfl | rfl
    · exact Nat.lt_succ_self _
    · exact Nat.lt_succ_of_lt hdl
  · obtain ⟨t, rfl⟩ := val _ _ hP
    obtain ⟨h1, h2⟩ := argBest_lt (fun i => ns.getD i 0) (es.size - 1)
    refine ⟨.int _, H, I.kept fun b o e => hk b o (fun hm => ?_) (Heap.get?_push_of_some _ e), ⟨t, rfl⟩, q _ ?_ fun y hy => ?_⟩
    · have : b = s.heap.objs.size := by simpa using hm
      rw [this] at e
      exact Nat.lt_irrefl _ (Heap.lt_size e)
    · exact PySem.getD_mem (by omega)
    · obtain ⟨j, hj, rfl⟩ := mem_getD hy
      exact h2 j (by omega)
def fMinVN (d : D) (S : Sto) : Rs D := match nOf S d with
  | some (_, kvs) => fMin (kvs.map (·.2)) S
  | none => .bad
theorem me_minVN {e : Expr} {m : En → Sto → Rs D} {p pos apos cpos : Pos} (hc : X.calm = true) (hg : Gl X "min") (hm : X.mg "min" = none) (he : ME X W e m) (hbase : attributeBase e "values" X.env (eval e X.env) = eval e X.env := by rfl) (hline : (apos.endLine == cpos.line) = true := by rfl)
    (hst : starEach [.Call (.Attribute e "values" apos) [] [] cpos] X.env = (false, eval (.Call (.Attribute e "values" apos) [] [] cpos) X.env) :: starEach [] X.env := by rfl) (hpl : (backTo pos (starEach [] X.env)).any (·.1) = false := by rfl) :
    ME X W (.Call (.Name "min" p) [.Call (.Attribute e "values" apos) [] [] cpos] [] pos) (m1 fMinVN m) :=
  PE.imp (pe_callB (cr_minVN hc) hg hm PyProof.Rows.boot_min (pa_cons (pe_viewN he hbase hline) pa_nil hst) (by decide) (by decide) hst hpl) fun σ H Q q => by
    obtain ⟨p, S, E, hs, he, q⟩ := q
    refine lE_step hs he (post_mono (fun d S1 p1 H1 x1 hs1 q1 v rv => ?_) (post_bind q))
    unfold fMinVN at q1
    split at q1
    · rename_i n kvs hd
      obtain ⟨a, xs, rfl, ea, hn, rn⟩ := nOf_read hs1 rv hd
      unfold fMin at q1
      split at q1
      · rename_i n' ns hn'
        have e1 := toInts_eq hn'
        have rk2 := rn.2.1
        rw [e1] at rk2
        have e2 := ints_read rk2
        refine ⟨a, xs, rfl, hn, fun b hb => ?_⟩
        have hne : ∀ o, H1 a = some o → a ≠ b := fun o ho => ne_of_none ho hb
        have up : ∀ o, Rd H1 a o → Rd (upd H1 b (ViewO b a)) a o := fun o h => by
          rcases h with h | ⟨ob, h⟩
          · exact .inl (by rw [upd_ne (hne _ h)]; exact h)
          · exact .inr ⟨ob, by rw [upd_ne (hne _ h)]; exact h⟩
        have hn2 : NAt X (upd H1 b (ViewO b a)) a xs := by
          rcases hn with ⟨h, hk⟩ | ⟨h, hk⟩
          · exact .inl ⟨up _ h, fun x hx => let ⟨p, r⟩ := hk x hx; ⟨p, r.mono (Pre.refl _) (Keep.new hb)⟩⟩
          · exact .inr ⟨h, up _ hk⟩
        refine ⟨b, a, xs, n' :: ns, rfl, upd_same, hn2, e2, by simp, fun m hm hall => ?_⟩
        obtain ⟨h1, h2⟩ := foldl_min_spec ns n'
        have em : m = ns.foldl min n' := Int.le_antisymm (hall _ h2) (h1 m hm)
        rw [em]
        exact q1 p1 _ (Ext.new hb) (hs1.frame hb) _ rfl
      · exact q1.elim
    · exact q1.elim
/-! sorted(xs): a list or a tuple of ints -/
theorem sorted_tup {A : Around} {E : Value → Shared → Prop} {s : Shared} {prog : Program} {w : World} {t : Addr} {its : List Value} {ns : List Int} {Q : Value → Shared → Prop} (ht : IsTup s.heap t its.toArray) (hI : IntsAre its ns) (hz : its.length ≤ sizeLine)
    (h : ∀ (a : Addr) (h2 : Heap) (out : List Value) (e : Nat) (ns' : List Int), (∀ b o, s.heap.get? b = some o → h2.get? b = some o) → s.heap.get? a = none → h2.get? a = some (PyProof.Rows.seqObj "list" out.toArray e) → IntsAre out ns' → ns'.Perm ns → ns'.Pairwise (· ≤ ·) → Q (.ref a) { s with heap := h2 }) :
    wpAny (model prog w) A (call (.builtin "sorted") [.ref t]) Q E s := by
  refine Calls.call_function_entry PyProof.Rows.kind_sorted PyProof.Rows.plain_sorted PyProof.Rows.entry_sorted (PyProof.Rows.args_sorted1 _) ?_
  unfold Builtin.«sorted»
  refine wpAny_bind (m := checkCount "sorted" 1 1 _) (wpAny_pure ?_)
  obtain ⟨o, ho, hcl, n, hd⟩ := ht
  refine wpAny_bind (wpAny_collect_seq t (.inr rfl) ho hcl hd (fun h' k => ?_) (by simpa using hz))
  refine wpAny_bind (wpAny_newList ?_ (by simpa using hz))
  have hoL : (h'.push { cls := .type "list", data := .seq its.toArray.toList.toArray }).get? h'.objs.size = some (PyProof.Rows.seqObj "list" its.toArray 0) := Heap.get?_push_size _ rfl
  have kp : ∀ b o, s.heap.get? b = some o → b < h'.objs.size ∧ (h'.push { cls := .type "list", data := .seq its.toArray.toList.toArray }).get? b = some o := fun b o q => ⟨Heap.lt_size (k b o q), Heap.get?_push_of_some _ (k b o q)⟩
  have hge : s.heap.get? h'.objs.size = none := by
    cases hq : s.heap.get? h'.objs.size with
    | none => rfl
    | some o => exact absurd (Heap.lt_size (k _ _ hq)) (Nat.lt_irrefl _)
  refine wpAny_bind (wpAny_holding (wpAny_call_entry PyProof.Rows.slot_list_sort ⟨_, hoL, rfl⟩ PyProof.Rows.entry_list_sort (SrtO.list_sort_ord SrtO.swo_int hoL hz (fun h2 => SrtO.ints_sortable hI h2) fun out hs hb => ⟨_, rfl, ?_⟩) (PyProof.Rows.args_list_sort _)))
  obtain ⟨k1, k2, k3⟩ := SrtO.ints_out hI hs hb
  obtain ⟨e, he⟩ := PyProof.Rows.sortedHeap_at (out := out.toArray) hoL
  refine wpAny_pure ⟨_, rfl, h _ _ out e _ (fun b o q => ?_) hge he k1 k2 k3⟩
  obtain ⟨q1, q2⟩ := kp b o q
  rw [PyProof.Rows.sortedHeap_old (Nat.ne_of_lt q1) (by rw [Heap.size_push]; exact Nat.lt_succ_of_lt q1)]
  exact q2
def rSortL (K : PySem.W.Frag) : List V → Hp → VK → Prop := fun vs H Q => ∃ (a : Addr) (ns : List Int), vs = [V.ref a] ∧ (SqL K H a (ns.map V.int) ∨ SqT K H a (ns.map V.int)) ∧
  ∀ (ns' : List Int) (p : Addr), ns'.Perm ns → ns'.Pairwise (· ≤ ·) → H p = none → Q (.ref p) (upd H p (.lst (ns'.map V.int)))
theorem cr_sortL : CallR X (.builtin "sorted") (rSortL X.K) := by
  intro pins s σ H vs us Q I r h
  obtain ⟨a, ns, rfl, hs, q⟩ := h
  rcases hs with hs | hs
  · exact cr_sortedI pins s σ H _ us Q I r ⟨a, ns, rfl, hs, q⟩
  · obtain ⟨its, rv, ht, hz⟩ := I.tuple hs
    rw [Vals.ref1 r]
    have hi := rv.ints
    refine sorted_tup ht hi (by rw [← rv.length]; exact hz) fun b h2 out e ns' k hb hg i1 i2 i3 => ?_
    have hn : H b = none := HOk.gone I.hok hb
    refine ⟨.ref b, upd H b (.lst (ns'.map V.int)), I.laidN (t' := s.toks) k hb hn ⟨?_, out, e, vals_of_ints i1, hg⟩, rfl, q ns' b i2 i3 hn⟩
    rw [List.length_map, i2.length_eq]
    simpa using hz
/-- ints in order -/
def insI (x : Int) : List Int → List Int
  | [] => [x]
  | y :: ys => if x ≤ y then x :: y :: ys else y :: insI x ys
def sortI (ns : List Int) : List Int := ns.foldr insI []
theorem insI_perm {x : Int} : ∀ {ys : List Int}, (insI x ys).Perm (x :: ys)
  | [] => List.Perm.refl _
  | y :: ys => by
    rw [insI]
    split
    · exact List.Perm.refl _
    · exact (List.Perm.cons y insI_perm).trans (List.Perm.swap ..)
theorem sortI_perm : ∀ {ns : List Int}, (sortI ns).Perm ns
  | [] => List.Perm.refl _
  | n :: ns => insI_perm.trans (List.Perm.cons n sortI_perm)
theorem insI_le {x : Int} : ∀ {ys : List Int}, ys.Pairwise (· ≤ ·) → (insI x ys).Pairwise (· ≤ ·)
  | [], _ => List.pairwise_singleton _ _
  | y :: ys, h => by
    rw [insI]
    have h' := List.pairwise_cons.mp h
    split
    · rename_i hle
      refine List.pairwise_cons.mpr ⟨fun z hz => ?_, h⟩
      rcases List.mem_cons.mp hz with rfl | hz
      · exact hle
      · exact Int.le_trans hle (h'.1 z hz)
    · rename_i hnle
      refine List.pairwise_cons.mpr ⟨fun z hz => ?_, insI_le h'.2⟩
      rcases List.mem_cons.mp (insI_perm.mem_iff.mp hz) with rfl | hz
      · omega
      · exact h'.1 z hz
theorem sortI_le : ∀ {ns : List Int}, (sortI ns).Pairwise (· ≤ ·)
  | [] => List.Pairwise.nil
  | _ :: _ => insI_le sortI_le
theorem le_unique : ∀ {a b : List Int}, a.Pairwise (· ≤ ·) → b.Pairwise (· ≤ ·) → a.Perm b → a = b
  | [], b, _, _, p => p.nil_eq
  | x :: a, [], _, _, p => absurd p.length_eq (by simp)
  | x :: a, y :: b, ha, hb, p => by
    have ha' := List.pairwise_cons.mp ha
    have hb' := List.pairwise_cons.mp hb
    have e : x = y := by
      have h1 : x ≤ y := by
        rcases List.mem_cons.mp (p.mem_iff.mpr (List.mem_cons_self ..) : y ∈ x :: a) with e | h
        · omega
        · exact ha'.1 y h
      have h2 : y ≤ x := by
        rcases List.mem_cons.mp (p.mem_iff.mp (List.mem_cons_self ..) : x ∈ y :: b) with e | h
        · omega
        · exact hb'.1 x h
      omega
    subst e
    rw [le_unique ha'.2 hb'.2 (List.Perm.cons_inv p)]
def fSorted (ds : List D) (S : Sto) : Rs D := match ds with
  | [.tup xs] => (match toInts xs with
    | some ns => .ok (.ref S.length) (S ++ [.lst ((sortI ns).map .int)])
    | none => .bad)
  | [.ref n] => (match S[n]? with
    | some (.lst xs) => (match toInts xs with
      | some ns => .ok (.ref S.length) (S ++ [.lst ((sortI ns).map .int)])
      | none => .bad)
    | _ => .bad)
  | _ => .bad
theorem pr_sorted : PrimN (gX X) W (rSortL X.K) fSorted := by
  intro p S H xs vs Q hs rs q
  have fin : ∀ (a : Addr) (ns : List Int), post (gX X) W p H (.ok (.ref S.length) (S ++ [.lst ((sortI ns).map .int)])) (kE (gX X) Q) → (SqL X.K H a (ns.map V.int) ∨ SqT X.K H a (ns.map V.int)) → rSortL X.K [V.ref a] H Q := fun a ns q h => by
    refine ⟨a, ns, rfl, h, fun ns' b pm pw hb => ?_⟩
    have e : ns' = sortI ns := le_unique pw sortI_le (pm.trans sortI_perm.symm)
    rw [e]
    exact q (p ++ [b]) _ (Ext.alloc hb) (hs.alloc hb ⟨_, rfl, rds_ints _⟩) _ ⟨b, by rw [← hs.len]; simp, rfl⟩
  unfold fSorted at q
  split at q
  · rename_i ds
    obtain ⟨v, r, rfl, ⟨a, us, rfl, e, rr⟩, h2⟩ := rs
    cases (show r = [] from h2)
    split at q
    · rename_i ns hn
      rw [toInts_eq hn] at rr
      rw [ints_read rr] at e
      exact fin a ns q (.inr e)
    · exact q.elim
  · rename_i n
    obtain ⟨v, r, rfl, ⟨a, ea, rfl⟩, h2⟩ := rs
    cases (show r = [] from h2)
    split at q
    · rename_i ds hd
      split at q
      · rename_i ns hn
        obtain ⟨x, ex, us, rfl, rr⟩ := hs.get n a _ ea hd
        rw [toInts_eq hn] at rr
        rw [ints_read rr] at ex
        exact fin a ns q (.inl (.of ex))
      · exact q.elim
    · exact q.elim
  · exact q.elim
end
end M

namespace M
open PySem L2
/-! ### f(a, .., k = v, ..), without defaults, the keywords in the order of the parameters -/
def gk {α : Type} (n m : Nat) (us ws : List α) : List α := if us.length = n ∧ ws.length = m then us ++ ws else []
structure DefK (P : Program) (w : World) (K : PySem.W.Frag) (mg : Str → Option Value) (base : Heap) (k : Nat) (x : Str) (st : Stmt) (ps : List Str) (mf : List D → Sto → Rs D) : Prop where
  ex : ∃ (f : Addr) (fd : FuncData), FnOk P w K mg base CX0 k f fd ps (spM ⟨K, P, w⟩ ps.length mf) ∧ mg x = some (.ref f) ∧ PySem.W.keepIn K (.ref f) = true ∧ Binds K fd ps [] ∧ FunD K x x (defArgs st) (defBody st) (defScope st) [] [] f fd
section
variable {P : Program} {w : World} {K : PySem.W.Frag} {mg : Str → Option Value} {base : Heap}
theorem DefK.at {k : Nat} {x : Str} {st : Stmt} {ps : List Str} {mf : List D → Sto → Rs D} (h : DefK P w K mg base k x st ps mf) : DefAt P w K mg base k x ps.length mf := by
  obtain ⟨f, fd, h1, h2, h3, h4, _⟩ := h.ex
  exact ⟨f, fd, ps, h1, h2, h3, h4⟩
theorem defAtK {x : Str} {st : Stmt} {N ps : List Str} {k : Nat} {mb : En → Sto → Rs Fl} (F : ∃ fd, FunD K x x (defArgs st) (defBody st) (defScope st) [] [] (He.ga K x) fd) (hm : mg x = some (.ref (He.ga K x))) (S : FnScope N ps (defScope st))
    (hbd : ∀ (kV doc pm : Value) (an : Option Addr) (cdv ct : Value) (us : List Value), us.length = ps.length → bindArgs (PySem.W.fnOf x x (defArgs st) (defBody st) (defScope st) .none kV doc pm an cdv ct) ⟨us, []⟩ = pure (ps.zip us))
    (hb : ∀ (A : Around) (outer : List Env) (s : Shared) (H : Hp) (E : XK), Room k (A.deeper (PyProof.Rows.envOfC x (defScope st) s.heap.objs.size (He.ga K x) (.ref (He.codeOf K (x, none))))) → MSs (cxOf CX0 P w K mg base N x (defScope st) (He.ga K x) (.ref (He.codeOf K (x, none))) A outer s H E).nox W0 (defBody st) mb) :
    DefK P w K mg base (k + 1) x st ps (mDef N.length mb) := by
  obtain ⟨fd, F⟩ := F
  exact ⟨_, fd, ok_defC F S hb, hm, F.kp, F.bindsN hbd, F⟩
theorem kb_of {x : Str} {st : Stmt} {f : Addr} {fd : FuncData} {ps : List Str} (F : FunD K x x (defArgs st) (defBody st) (defScope st) [] [] f fd) (n : Nat) (ks : List Str) (hp : 0 < ps.length)
    (h : ∀ (kV doc pm : Value) (an : Option Addr) (cdv ct : Value) (us ws : List Value), us.length = n → ws.length = ks.length → bindArgs (PySem.W.fnOf x x (defArgs st) (defBody st) (defScope st) .none kV doc pm an cdv ct) ⟨us, ks.zip ws⟩ = pure (ps.zip (us ++ ws))) :
    KBinds K fd ps ks (gk n ks.length) (gk n ks.length) := by
  obtain ⟨oc, od, dV, kV, doc, pm, an, cdv, ct, osl, rfl, lk, hcd, hD, hK⟩ := F.ex
  rcases hD with ⟨_, rfl⟩ | ⟨e, _⟩
  · refine ⟨fun s us ws _ hl => ?_, fun {vs us zs ws} r1 r2 => ?_⟩
    · unfold gk at hl ⊢
      split at hl
      · rename_i hc
        rw [if_pos hc]
        exact .of_eq (h kV doc pm an cdv ct us ws hc.1 hc.2)
      · simp at hl; omega
    · unfold gk
      rw [r1.length, r2.length]
      split
      · exact r1.append r2
      · exact .nil
  · exact absurd rfl e
end
section
variable {X : Cx} {W : XW}
abbrev MKs (X : Cx) (W : XW) (kws : List Keyword) (m : En → Sto → Rs (List D)) : Prop := PK X kws (lA (gX X) W m)
theorem PK.imp {kws : List Keyword} {t t' : TA} (h : PK X kws t) (hi : ∀ σ H Q, t' σ H Q → t σ H Q) : PK X kws t' := ⟨fun pos pins s σ H Q I hw => h.run pos pins s σ H Q I (hi σ H Q hw)⟩
theorem mk_nil : MKs X W [] aNil := PK.imp pk_nil fun σ H Q q => by
  obtain ⟨p, S, E, hs, he, q⟩ := q
  exact post_ok q hs [] rfl
theorem mk_cons {e : Expr} {nm : Option Str} {kpos : Pos} {kws : List Keyword} {na : En → Sto → Rs D} {r : En → Sto → Rs (List D)} (ha : ME X W e na) (hr : MKs X W kws r) : MKs X W (⟨nm, e, kpos⟩ :: kws) (aCons na r) :=
  PK.imp (pk_cons ha hr) fun σ H Q q => by
    obtain ⟨p, S, E, hs, he, q⟩ := q
    refine lE_step hs he (post_mono (fun d S1 p1 H1 x1 hs1 q1 v rv => ?_) (post_bind q))
    refine ⟨p1, S1, E, hs1, he.mono x1.pre x1.tup, post_mono (fun ds S2 p2 H2 x2 hs2 q2 vs rvs => ?_) (post_bind q1)⟩
    exact post_ok q2 hs2 (v :: vs) ⟨_, _, rfl, rv.mono x2.pre x2.tup, rvs⟩
def mNK (n m : Nat) (f : List D → Sto → Rs D) (t tk : En → Sto → Rs (List D)) : En → Sto → Rs D := fun E S => (t E S).bind fun xs S1 => (tk E S1).bind fun zs S2 => if xs.length = n ∧ zs.length = m then f (xs ++ zs) S2 else .bad
theorem me_clK {k j a b n : Nat} {mf : List D → Sto → Rs D} {x : Str} {st : Stmt} {ps ks : List Str} {p pos : Pos} {e : Expr} {es : List Expr} {kws : List Keyword} {t tk : En → Sto → Rs (List D)} (F : DefK X.prog X.w X.K X.mg X.base k x st ps mf) (hr : Room j X.A) (hk : k ≤ j) (hg : Gl X x) (hn : 0 < ps.length)
    (hbd : ∀ (kV doc pm : Value) (an : Option Addr) (cdv ct : Value) (us ws : List Value), us.length = a → ws.length = ks.length → bindArgs (PySem.W.fnOf x x (defArgs st) (defBody st) (defScope st) .none kV doc pm an cdv ct) ⟨us, ks.zip ws⟩ = pure (ps.zip (us ++ ws)))
    (ha : MA X W (e :: es) t) (hkw : MKs X W kws tk) (hall : (backToKw pos (keywordEach kws X.env)).all (·.1.isSome) = true := by rfl) (hks : (backToKw pos (keywordEach kws X.env)).filterMap (·.1) = ks := by rfl)
    (hdb : (x == ("__debug__" : Str)) = false := by decide) (he : starEach (e :: es) X.env = (false, eval e X.env) :: starEach es X.env := by rfl)
    (hpl : ((backTo pos (starEach (e :: es) X.env)).any (·.1) || (backToKw pos (keywordEach kws X.env)).any (·.1.isNone)) = false := by rfl) (hkl : ks.length = b := by rfl) (hpn : ps.length = n := by rfl) : ME X W (.Call (.Name x p) (e :: es) kws pos) (mNK a b (mCl n mf) t tk) := by
  subst hkl
  subst hpn
  obtain ⟨f, fd, F1, hm, hkp, hb, FD⟩ := F.ex
  refine PE.imp (pe_callK F1 (hr.mono hk) hg hm hkp (kb_of FD a ks hn hbd) pass0 ha hkw hall hks hdb he hpl) fun σ H Q q => ?_
  obtain ⟨p, S, E, hs, he, q⟩ := q
  refine ⟨p, S, E, hs, he, post_mono (fun ds S1 p1 H1 x1 hs1 q1 vs rvs => ?_) (post_bind q)⟩
  refine ⟨p1, S1, E, hs1, he.mono x1.pre x1.tup, post_mono (fun es S2 p2 H2 x2 hs2 q2 zs rzs => ?_) (post_bind q1)⟩
  split at q2
  · rename_i hc
    have r1 := rvs.mono x2.pre x2.tup
    have e1 : gk a ks.length vs zs = vs ++ zs := by
      unfold gk
      rw [← r1.length, ← rzs.length, if_pos hc]
    show spM (gX X) ps.length mf (gk a ks.length vs zs) H2 Q E0
    rw [e1]
    unfold mCl at q2
    split at q2
    · rename_i hl
      refine ⟨by rw [← (r1.append rzs).length]; exact hl, p2, S2, ds ++ es, hs2, r1.append rzs, post_noX q2⟩
    · exact q2.elim
  · exact q2.elim
end
end M

namespace M
open PySem L2
section
variable {X : Cx} {W : XW}
/-! {k: v}, k a tuple -/
theorem dictN_one {P : Program} {w : World} {H : Hp} {h : Heap} {a : Addr} {k : NestedKey} {b : Addr} {v : V} {u : Value} (sm : (a == sysModules) = false) (hk : k.depth ≤ 8) (r : RelV v u) (dd : h.DictOfH (nestedKind P w) a [(k, b, u)]) : ObjOk P w H h a (DictN P w a [(k, b, v)]) := by
  obtain ⟨qo, es, ep, hq, h2, h3, h4, _, h5⟩ := dd
  have hz : 1 ≤ sizeLine := by decide
  refine ⟨⟨hz, sm, fun x hx => ?_, by simp, [(k, b, u)], qo, es, ep, .cons ⟨rfl, rfl, r⟩ .nil, hq, h2, h3, h4⟩, ⟨qo, hq⟩, fun h1 h2 x k => ?_⟩
  · rw [List.mem_singleton.mp hx]; exact hk
  · obtain ⟨a1, a2, a3, a4, ys', o', es', ep', b1, b2, b3, b4, b5⟩ := x
    exact ⟨a1, a2, a3, a4, ys', o', es', ep', b1, k _ b2, b3, b4, b5⟩
def QN (X : Cx) (c : Addr) (Q : VK) : List (V × V) → Hp → Prop := fun ps H2 => match ps with
  | [(x, y)] => H2 c = some (.dK []) ∧ ∃ key b, x = .ref b ∧ KeyN X H2 key b ∧ Q (.ref c) (upd H2 c (DictN X.prog X.w c [(key, b, y)]))
  | _ => False
theorem qn_one {c : Addr} {Q : VK} {ps : List (V × V)} {ws : List (Value × Value)} {H2 : Hp} (r : VV ps ws) (h : QN X c Q ps H2) : ∃ x y u1 u2, ws = [(u1, u2)] ∧ RelV x u1 ∧ RelV y u2 ∧ H2 c = some (.dK []) ∧ ∃ key b, x = .ref b ∧ KeyN X H2 key b ∧ Q (.ref c) (upd H2 c (DictN X.prog X.w c [(key, b, y)])) := by
  cases r with
  | nil => exact False.elim h
  | @cons a b l m r1 r2 =>
    cases r2 with
    | nil => exact ⟨a.1, a.2, b.1, b.2, rfl, r1.1, r1.2, h⟩
    | cons r3 r4 => exact False.elim h
theorem pe_disp1N {k v : Expr} {tk tv : TE} {pos : Pos} (hu : X.A.units + 64 < cLine) (hk : PE X k tk) (hv : PE X v tv)
    (hsh : (evalEachOpt [some k] X.env).zip ((evalEach [v] X.env).map fun v => do let x ← v; standAt pos; pure x) = (pairTrees [some k] [v] X.env pos).map fun p => (some p.1, p.2) := by rfl) (hne : (pairTrees [some k] [v] X.env pos).length = 1 := by rfl) :
    PE X (.Dict [some k] [v] pos) (fun σ H Q => ∀ p, H p = none → tk σ (upd H p (.dK [])) fun x H1 => tv σ H1 fun y H2 => H2 p = some (.dK []) ∧ ∃ key b, x = .ref b ∧ KeyN X H2 key b ∧ Q (.ref p) (upd H2 p (DictN X.prog X.w p [(key, b, y)]))) := by
  refine ⟨fun pins s σ H Q I q => ?_⟩
  have hn := I.hok.fresh (Nat.le_refl s.heap.objs.size)
  have I1 := I.laid (a := s.heap.objs.size) (o := .dK []) (h' := s.heap.push { cls := .type "dict", data := .dict #[] }) (t' := s.toks) (fun _ _ q => Heap.get?_push_of_some _ q) (Nat.le_refl _) (dk_empty s.heap I.big)
  have h0 : pairTrees [some k] [v] X.env pos ≠ [] := fun z => by rw [z] at hne; cases hne
  rw [arm_eval_Dict, hsh, dictDisplay_pairs _ h0 (by omega)]
  have hu' : (nestedKind X.prog X.w).room X.A := by
    show X.A.units + 8 < cLine
    omega
  have PP := pps_cons (pos := pos) hk hv (pps_nil (X := X) (pos := pos))
  refine wpAny_bind (wpAny_standAt (wpAny_bind (wpAny_subDictH (knd := nestedKind X.prog X.w) hu' (by omega) (thn (PP.run pins _ σ _ (QN X s.heap.objs.size Q) I1 (q _ hn)) fun ws s2 ⟨ps, H2, I2, rel, hq⟩ => ?_))))
  obtain ⟨x, y, u1, u2, ews, e1, e2, e, key, b, ex, hkn, q2⟩ := qn_one rel hq
  subst ews
  subst ex
  have eu : u1 = Value.ref b := e1
  subst eu
  have hat : NAt X H2 s.heap.objs.size [] := .inr ⟨rfl, .inl e⟩
  obtain ⟨sm, l, _, _, ys, pr, dd⟩ := hat.full I2
  have ey : ys = [] := List.length_eq_zero_iff.mp (pair_len pr).symm
  subst ey
  refine ⟨[(key, b, u2)], ⟨rfl, rfl, hkn.is I2, trivial⟩, dd, fun h' tk dd' hs => wpAny_pure ?_⟩
  have he : ∃ q, h'.get? s.heap.objs.size = some q := let ⟨q, _, _, hq, _⟩ := dd'; ⟨q, hq⟩
  have I3 := I2.write (x := s.heap.objs.size) (e := s.heap.objs.size) (t' := tk) (by rw [e]; exact True.intro) (.inl rfl) (fun c ob hc e => (hs.2 c hc).trans e) he (dictN_one sm hkn.1 e2 dd')
  exact ⟨.ref s.heap.objs.size, _, I3, rfl, q2⟩
def mDisp1N (mk mv : En → Sto → Rs D) : En → Sto → Rs D := fun E S => (mk E S).bind fun x S1 => (mv E S1).bind fun y S2 => match keyN x with
  | some k => .ok (.ref S2.length) (S2 ++ [.dn [(k, y)]])
  | none => .bad
theorem me_disp1N {k v : Expr} {mk mv : En → Sto → Rs D} {pos : Pos} (hu : X.A.units + 64 < cLine) (hk : ME X W k mk) (hv : ME X W v mv)
    (hsh : (evalEachOpt [some k] X.env).zip ((evalEach [v] X.env).map fun v => do let x ← v; standAt pos; pure x) = (pairTrees [some k] [v] X.env pos).map fun p => (some p.1, p.2) := by rfl) (hne : (pairTrees [some k] [v] X.env pos).length = 1 := by rfl) :
    ME X W (.Dict [some k] [v] pos) (mDisp1N mk mv) :=
  PE.imp (pe_disp1N hu hk hv hsh hne) fun σ H Q q => by
    obtain ⟨p, S, E, hs, he, q⟩ := q
    intro c hc
    have x0 : Ext (gX X) p H p (upd H c (.dK [])) := Ext.new hc
    have he0 := he.mono x0.pre x0.tup
    refine lE_step (hs.frame hc) he0 (post_mono (fun x S1 p1 H1 x1 hs1 q1 v rv => ?_) (post_base x0 (post_bindB q)))
    refine lE_step hs1 (he0.mono x1.pre x1.tup) (post_mono (fun y S2 p2 H2 x2 hs2 q2 u ru => ?_) (post_base (x0.trans x1) (post_bindB q1)))
    have hcp : c ∉ p := hs.notin hc
    have x12 := x1.trans x2
    obtain ⟨hc1, hH1⟩ := x12.frm c _ hcp upd_same (fun _ z => by cases z)
    split at q2
    · rename_i kk hkk
      obtain ⟨b, rfl, hkn, hkd⟩ := keyN_read (rv.mono x2.pre x2.tup) hkk
      refine ⟨hH1, kk, b, rfl, hkn, ?_⟩
      have hx : Ext (gX X) p H (p2 ++ [c]) (upd H2 c (DictN X.prog X.w c [(kk, b, u)])) := by
        have xx := x0.trans x12
        have k2 : Keep (gX X) H2 (upd H2 c (DictN X.prog X.w c [(kk, b, u)])) := Keep.set hH1 (.inl rfl)
        refine ⟨xx.pre.trans (Pre.add _ _), xx.tup.trans k2, fun b ob h1 h2 h3 => ?_, fun b ob u h2 => ?_⟩
        · obtain ⟨a1, a2⟩ := xx.frm b ob h1 h2 h3
          have hb : b ≠ c := ne_of_none h2 hc
          refine ⟨fun z => ?_, by rw [upd_ne hb]; exact a2⟩
          rcases List.mem_append.mp z with z | z
          · exact a1 z
          · exact hb (by simpa using z)
        · rw [upd_ne (ne_of_none h2 hc)]
          exact xx.frz _ _ _ h2
      have hsd := hs2.del hc1 hH1 rfl
      have kd : Keep (gX X) H2 (del H2 c) := Keep.del hH1 rfl
      have hs3 := hsd.alloc (a := c) (o := .dn [(kk, y)]) del_same ⟨[(kk, b, u)], rfl, RNs.of (.cons ⟨rfl, ru.mono (Pre.refl _) kd, by rw [hkd]; exact (rv.mono x2.pre x2.tup).mono (Pre.refl _) kd⟩ .nil)⟩
      have eH : upd (del H2 c) c (DictN X.prog X.w c [(kk, b, u)]) = upd H2 c (DictN X.prog X.w c [(kk, b, u)]) := by
        funext b
        by_cases hb : b = c
        · subst hb; rw [upd_same, upd_same]
        · rw [upd_ne hb, upd_ne hb, del_ne hb]
      have hs3' : RS (gX X) (p2 ++ [c]) (S2 ++ [.dn [(kk, y)]]) (upd H2 c (DictN X.prog X.w c [(kk, b, u)])) := by rw [← eH]; exact hs3
      exact q2 _ _ hx hs3' _ ⟨c, by rw [← hs2.len]; simp, rfl⟩
    · exact q2.elim
end
end M

namespace M
open PySem L2 PySem.Spec
section
variable {X : Cx} {W : XW} {pins : List (Addr × Obj)} {σ : L2.St} {H : Hp} {s : Shared}
/-! ### an exception that was caught is told from now on -/
theorem exC_ok {P : Program} {w : World} {h : Heap} {a : Addr} {oe : Obj} {vs : Array Value} {cls : Value} {d : Option Addr} (ha : h.get? a = some oe) (hz : Zc cls d oe) (hd : oe.data = .fields vs) : ObjOk P w H h a (ExC cls d a) :=
  ⟨⟨oe, vs, ha, hz, hd⟩, ⟨oe, ha⟩, fun _ _ x k => let ⟨o, v, e, z, f⟩ := x; ⟨o, v, k _ e, z, f⟩⟩
theorem inv_track (I : Inv X pins σ H s) {a : Addr} {oe : Obj} {vs : Array Value} {cls : Value} {d : Option Addr} (h0 : X.s_0.heap.get? a = none) (hn : H a = none) (ha : s.heap.get? a = some oe) (hz : Zc cls d oe) (hd : oe.data = .fields vs) (hL : a ≠ X.env.locals) (hp : ∀ p ∈ X.pn ++ pins, p.1 ≠ a) : Inv X pins σ (upd H a (ExC cls d a)) s where
  ok := I.ok
  os := I.os
  bare := I.bare
  base := ⟨I.base.keep, I.base.slot, fun b o e n hx => by
      rw [upd_ne (fun z => by rw [z, h0] at e; cases e)]; exact I.base.free b o e n hx, I.base.there,
    fun b xs e => by have q := I.base.tups b xs e; rw [upd_ne (ne_of_none q hn)]; exact q,
    fun b o u e => by have q := I.base.frzs b o u e; rw [upd_ne (ne_of_none q hn)]; exact q,
    fun b ps e => by obtain ⟨m, q⟩ := I.base.tbls b ps e; exact ⟨m, by rw [upd_ne (ne_of_none q hn)]; exact q⟩⟩
  loc := I.loc
  cell := I.cell
  free := by rw [upd_ne (Ne.symm hL)]; exact I.free
  freeC := fun x c e => by
    rw [upd_ne]
    · exact I.freeC x c e
    · intro z
      subst z
      obtain ⟨v, o, ho, hc⟩ := I.cell x c e
      rw [ha] at ho
      cases ho
      rw [hd] at hc
      cases hc
  pin := fun p q => by
    obtain ⟨e1, e2, e3⟩ := I.pin p q
    exact ⟨e1, by rw [upd_ne (hp p q)]; exact e2, e3⟩
  hok := HOk.laidN I.hok (fun _ _ z => z) hn (exC_ok ha hz hd)
  len := I.len
/-- try: body / except x as n: r = n, where the rest asks the exception -/
def wKeep (K : PySem.W.Frag) (c : Value) (i j nn : Nat) (Wout : WX) (Z : Ends) : WX := fun cls d σ H => ∃ b, PySem.W.exmOne K cls c = some b ∧
  (b = true → ∀ a, H a = none → σ.length = nn → Z.nx (((σ.set i (some (.ref a))).set j (some (.ref a))).set i none) (upd H a (ExC cls d a))) ∧ (b = false → Wout cls d σ H)
theorem ps_try_keep {x n r : Str} {c : Value} {i j : Nat} {body : List Stmt} {np rp vp ap pos pos' : Pos} {tb : WX → TS} {Wout : WX} (hs : X.stack = X.env :: X.outer) (hf : X.env.frame = some X.env.locals) (hex : X.ex = []) (hN : X.N.Nodup) (hi : X.N[i]? = some n) (hj : X.N[j]? = some r) (hln : X.env.kindOf n = some .local) (hlr : X.env.kindOf r = some .local) (hc : Names X x c) (tk : Takes X Wout)
    (hb : ∀ (V : WX) (pn : List (Addr × Obj)) (xe : Value → Shared → Prop), Takes (X.tr pn xe) V → PassesOwn (model X.prog X.w) X.A X.env xe → PSs (X.tr pn xe) body (tb V))
    (hsu : ∀ (a : Addr) (oe : Obj) (pn : List (Addr × Obj)), PSs (X.suite a ((a, oe) :: pn)) [.Assign [.Name r rp] (.Name n vp) ap] (fun Z σ H => ∃ v, σ[i]? = some (some v) ∧ Z.nx (σ.set j (some v)) H)) :
    PS X (.Try body [.ExceptHandler (some (.Name x np)) (some n) [.Assign [.Name r rp] (.Name n vp) ap] pos'] [] [] pos) (fun Z σ H => tb (wKeep X.K c i j X.N.length Wout Z) Z σ H) := by
  refine ⟨fun pins s σ H Z I hw => ?_⟩
  have ok := I.ok
  have fr0 : X.A.frames = some (X.env :: X.outer) := by rw [ok.frames, hs]
  refine wpAny_Try_except ?_
  refine wpAny_mono ((hb (wKeep X.K c i j X.N.length Wout Z) (X.pn ++ pins)
    (fun e s₁ => wpAny (model X.prog X.w) X.A (noteFrame e X.env) (fun _ s₂ => wpAny (model X.prog X.w) X.A (setFlight e none)
      (fun _ s₃ => wpAny (model X.prog X.w) X.A (handleBy e X.env [.ExceptHandler (some (.Name x np)) (some n) [.Assign [.Name r rp] (.Name n vp) ap] pos']) (SP X pins Z) X.xe s₃) X.xe s₂) X.xe s₁)
    (fun u s' xx => ?_) PassesOwn.looking).run [] s σ H Z (I.toTry _) hw) (fun f s1 done => ?_) (fun e s1 he => he)
  · obtain ⟨a, B, sI, pins', σ', H', cls, d, rfl, J', nb, up, sky, na, os, ag, b, hb1, hyes, hno⟩ := xx
    have J : Inv X pins σ' H' sI := J'.ofTry ok
    have sky2 : Sky B (X.env :: X.outer) a (Zc cls d) X.env.locals s'.heap := by rw [← hs]; exact sky
    show wpAny (model X.prog X.w) X.A (noteFrame (.ref a) X.env) _ _ _
    refine Sky.land Zc.steady fr0 hf sky2 fun g3 fl3 up3 => ?_
    have J3 : Inv X pins σ' H' { s' with heap := g3 } := J.landed nb fl3.1 (up.trans up3) os ag
    obtain ⟨oe3, vs3, he3, hz3, hd3⟩ := fl3.there
    have outFr : ∀ {hp : Heap} {o : Obj} {vs : Array Value}, hp.FunFrames B (X.env :: X.outer) → hp.get? a = some o → o.data = .fields vs → a ∉ frs (X.env :: X.outer) := fun {hp o vs} ff e dd m => by
      obtain ⟨_, o', e', q⟩ := ff.mem m
      rw [e] at e'
      cases e'
      exact q _ dd
    have nfr := outFr fl3.2.2.1 he3 hd3
    have nfr' : a ∉ frs X.stack := by rw [hs]; exact nfr
    have nL : a ≠ X.env.locals := fun z => nfr (List.mem_filterMap.mpr ⟨X.env, List.mem_cons_self, by rw [hf, z]⟩)
    have nF : a ∉ X.fs := fun m => by
      obtain ⟨e, me, q⟩ := List.mem_filterMap.mp m
      exact nfr (List.mem_filterMap.mpr ⟨e, List.mem_cons_of_mem _ me, q⟩)
    -- new since the entry
    have newI : ∀ o, sI.heap.get? a ≠ some o := fun o e => by
      have q := nb a o e nfr'
      rw [fl3.2.1] at q
      cases q
    have h0 : X.s_0.heap.get? a = none := by
      cases q : X.s_0.heap.get? a with
      | none => rfl
      | some o =>
        obtain ⟨o', e'⟩ := J.base.there a o q (by rw [hex]; simp)
        exact absurd e' (newI o')
    have hpin : ∀ p ∈ X.pn ++ pins, p.1 ≠ a := fun p q z => newI p.2 (by rw [← z]; exact (J.pin p q).1)
    have S3 := J3.suite he3 hd3 na nL nF
    refine wpAny_handleBy_cons (codeAny_handlers_test ?_) (by intro q; cases q)
    have LT : PySem.W.Looks (model X.prog X.w) g3 (typeOf (.ref a)) cls := fun A Q E s k q => wpAny_typeOf_ref (k _ _ he3) (by rw [hz3.1]; exact q)
    have LM := PySem.W.exm_one (M := model X.prog X.w) (J3.kIn) LT hb1
    have ask : ∀ {Q : Value → Shared → Prop} {E : Value → Shared → Prop}, Q c { s' with heap := g3 } → wpAny (model X.prog X.w) (X.A.mark (some (.ref a))) (eval (.Name x np) X.env) Q E { s' with heap := g3 } := fun {Q E} q => by
      obtain ⟨hg, hdbg, hm | ⟨hm, hv, hnn⟩⟩ := hc
      · exact ld_glob (X := X.suite a ((a, oe3) :: (X.pn ++ pins))) S3 hg hm q hdbg
      · exact ld_blt (X := X.suite a ((a, oe3) :: (X.pn ++ pins))) S3 hg hm hv q hnn hdbg
    refine ask (LM.here ?_)
    cases b with
    | true =>
      refine codeAny_handlers_suite_as (HandSPX.lands_againZ fl3 fun g4 fl4 up4 => ?_)
      have J4 : Inv X pins σ' H' { s' with heap := g4 } := J.landed nb fl4.1 ((up.trans up3).trans up4) os ag
      obtain ⟨oe4, vs4, he4, hz4, hd4⟩ := fl4.there
      have S4 := J4.suite he4 hd4 na nL nF
      refine store_ok (X := X.suite a ((a, oe4) :: (X.pn ++ pins))) (v := .ref a) S4 hN hi (.inl hln) rfl (fun s5 S5 => ?_) (.inr hln)
      have hiσ : i < σ'.length := by rw [J.len]; exact (List.getElem?_eq_some_iff.mp hi).1
      refine wpAny_mono ((hsu a oe4 (X.pn ++ pins)).run [] s5 _ H' { nx := fun σ6 H6 => σ6 = (σ'.set i (some (.ref a))).set j (some (.ref a)) ∧ H6 = H', rt := fun _ _ => False, bk := fun _ _ => False, ct := fun _ _ => False } S5 ⟨.ref a, by rw [List.getElem?_set_self hiσ], rfl, rfl⟩) (fun f s6 fin => ?_) (fun _ _ z => False.elim z)
      cases f with
      | next =>
        obtain ⟨σ6, H6, S6, e6, e7⟩ := fin
        rw [e6, e7] at S6
        obtain ⟨g1, g2, g3', g4', g5⟩ := S6.pin (a, oe4) (List.mem_append_left _ List.mem_cons_self)
        have J6 := S6.unsuite ok
        have J6' : L2.Inv X ((a, oe4) :: pins) _ H' s6 := J6.pins_of fun p hp => by
          rcases List.mem_cons.mp hp with rfl | hp
          · exact ⟨g1, g2, g3', g4', g5⟩
          · exact J6.pin p (List.mem_append_right _ hp)
        refine gone_ok J6' hN hi hln fun s7 J7 => ?_
        obtain ⟨k1, k2, _⟩ := J7.pin (a, oe4) (List.mem_append_right _ List.mem_cons_self)
        have J8 : L2.Inv X pins _ H' s7 := J7.pins_of fun p hp => J7.pin p (List.mem_append_right _ (List.mem_cons_of_mem _ hp))
        exact ⟨_, _, inv_track J8 h0 na k1 hz4 hd4 nL hpin, hyes rfl a na J.len⟩
      | brk => obtain ⟨_, _, _, q⟩ := fin; exact q.elim
      | cont => obtain ⟨_, _, _, q⟩ := fin; exact q.elim
      | ret u => obtain ⟨_, _, _, _, _, q⟩ := fin; exact q.elim
    | false =>
      show wpAny _ X.A (handleBy (.ref a) X.env []) _ _ _
      refine wpAny_handleBy_nil ?_
      obtain ⟨k1, k2, k3, oe, vs, T, oT, ts', he, hz, hd, h1, hr⟩ := id fl3
      unfold PySem.passOn
      refine wpAny_bind (wpAny_field he hd h1 ?_)
      rw [if_neg (show ¬ ((Value.ref T == Value.none) = true) from by simp)]
      have on : wpAny (model X.prog X.w) X.A (setFlight (.ref a) X.env.frame) (fun _ s4 => wpAny (model X.prog X.w) X.A (throw (.ref a) : Sem Flow) (SP X pins Z) X.xe s4) X.xe { s' with heap := g3 } := by
        rw [hf]
        exact HandSPX.setFlight_upZ fl3 fun g4 hh4 up4 => wpAny_throw (tk _ _ ⟨a, B, sI, pins, σ', H', cls, d, rfl, J, nb, (up.trans up3).trans up4, .inr (.inr (by rw [hs]; exact hh4)), na, os, ag, hno rfl⟩)
      first
        | exact wpAny_bind (wpAny_pure (wpAny_bind on))
        | exact wpAny_bind on
  · cases f with
    | next =>
      obtain ⟨σ', H', J', q⟩ := done
      exact wpAny_execs_nil ⟨σ', H', J'.ofTry ok, q⟩
    | brk => obtain ⟨σ', H', J', q⟩ := done; exact ⟨σ', H', J'.ofTry ok, q⟩
    | cont => obtain ⟨σ', H', J', q⟩ := done; exact ⟨σ', H', J'.ofTry ok, q⟩
    | ret u => obtain ⟨v, σ', H', J', r, q⟩ := done; exact ⟨v, σ', H', J'.ofTry ok, r, q⟩
/-! ### isinstance of it -/
def rIsX (K : PySem.W.Frag) : List V → Hp → VK → Prop := fun xs H Q => ∃ (a D : Addr) (c : V) (cv : Value) (b : Bool), xs = [.ref a, c] ∧ H a = some (ExC (.ref D) none a) ∧ ExcC K D ∧ (∀ u, RelV c u → u = cv) ∧ PySem.W.kitOne K (.ref D) cv = some b ∧ Q (.bl b) H
theorem call_isX : CallR X (.builtin "isinstance") (rIsX X.K) := by
  intro pins s σ H xs us Q I r h
  obtain ⟨a, D, c, cv, b, rfl, hH, C, hcv, e, q⟩ := h
  cases r with
  | cons rx rr =>
    cases rr with
    | cons rt rr =>
      cases rr
      cases rx
      have ec := hcv _ rt
      subst ec
      obtain ⟨⟨oe, vs, hget, hz, hv⟩, _⟩ := I.hok a _ hH
      have J : PySem.W.InstAt s.heap a oe D none := by
        obtain ⟨oc, od, oda, osl⟩ := oe
        obtain ⟨h1, h2⟩ := hz
        dsimp only at h1 h2 hv
        subst h1 h2 hv
        exact ⟨hget, rfl, rfl, trivial⟩
      exact PySem.W.kia_one (PySem.W.handS_kitx_exc C.hg C.hk C.hs C.hd C.ha C.hn C.ht C.hm) I.kIn J e (fun z => nomatch z) fun tk => ⟨.bl b, H, I.kept (t' := tk) fun _ _ z => z, rfl, q⟩
end
end M

namespace M
open PySem L2 PySem.Spec
/-! ### defs that may raise -/
/-- exceptions without fields, by name -/
def wE (K : KX) (E : XK) : XW := fun c fs _ _ H => fs = [] ∧ E (.ref (He.ga K.K c)) none H
def spX (K : KX) (n : Nat) (f : List D → Sto → Rs D) : Sp := fun vs H Q E => vs.length = n ∧ ∃ p S ds, RS K p S H ∧ RDs K p H ds vs ∧ post K (wE K E) p H (f ds S) (kE K Q)
structure DefX (P : Program) (w : World) (K : PySem.W.Frag) (mg : Str → Option Value) (base : Heap) (k : Nat) (x : Str) (n : Nat) (mf : List D → Sto → Rs D) : Prop where
  ex : ∃ (f : Addr) (fd : FuncData) (ps : List Str), FnOk P w K mg base (L2.CX P w) k f fd ps (spX ⟨K, P, w⟩ n mf) ∧ mg x = some (.ref f) ∧ PySem.W.keepIn K (.ref f) = true ∧ Binds K fd ps []
section
variable {P : Program} {w : World} {K : PySem.W.Frag} {mg : Str → Option Value} {base : Heap}
theorem defAtX {x : Str} {st : Stmt} {N ps : List Str} {k : Nat} {mb : En → Sto → Rs Fl} (F : ∃ fd, FunD K x x (defArgs st) (defBody st) (defScope st) [] [] (He.ga K x) fd) (hm : mg x = some (.ref (He.ga K x))) (S : FnScope N ps (defScope st))
    (hbd : ∀ (kV doc pm : Value) (an : Option Addr) (cdv ct : Value) (us : List Value), us.length = ps.length → bindArgs (PySem.W.fnOf x x (defArgs st) (defBody st) (defScope st) .none kV doc pm an cdv ct) ⟨us, []⟩ = pure (ps.zip us))
    (hb : ∀ (A : Around) (outer : List Env) (s : Shared) (H : Hp) (E : XK), Room k (A.deeper (PyProof.Rows.envOfC x (defScope st) s.heap.objs.size (He.ga K x) (.ref (He.codeOf K (x, none))))) → MSs (cxOf (L2.CX P w) P w K mg base N x (defScope st) (He.ga K x) (.ref (He.codeOf K (x, none))) A outer s H E) (wE ⟨K, P, w⟩ E) (defBody st) mb) :
    DefX P w K mg base (k + 1) x ps.length (mDef N.length mb) := by
  obtain ⟨fd, F⟩ := F
  have hbn := F.bindsN hbd
  have hkp := F.kp
  refine ⟨_, fd, ps, ?_, hm, hkp, hbn⟩
  obtain ⟨oc, od, dV, kV, doc, pm, an, cdv, ct, osl, rfl, lk, hcd, _, _⟩ := F.ex
  obtain ⟨c, rfl⟩ := He.codeIn_ref hcd
  have e : He.codeOf K (x, none) = c := He.codeOf_eq (p := (x, none)) lk rfl
  rw [e] at hb
  refine fn_of lk hcd S (fun vs H Q E h => h.1) (fun A outer s H vs Q E hr h => ?_)
  obtain ⟨hl, p, S', ds, hs, rd, q⟩ := h
  refine ⟨_, hb A outer s H E hr, p, S', startE N.length ds, hs, RE.start N rd, post_mono (fun fl S1 p1 H1 x1 hs1 q1 => ?_) (post_bindB q)⟩
  cases fl with
  | nx E1 => exact fun σ' _ => gc_read (d := .non) (v := .non) hs x1 hs1 rfl q1
  | rt d => exact fun v rv => gc_read hs x1 hs1 rv q1
  | bk E1 => exact q1.elim
  | ct E1 => exact q1.elim
end
section
variable {X : Cx} {W : XW}
/-- what leaves a def is taken -/
theorem takes_cx {P : Program} {w : World} {K : PySem.W.Frag} {mg : Str → Option Value} {base : Heap} {N : List Str} {q : Str} {sc : Scope} {f : Addr} {cd : Value} {A : Around} {outer : List Env} {s : Shared} {H : Hp} {E : XK} : Takes (cxOf (L2.CX P w) P w K mg base N q sc f cd A outer s H E) (fun cls d _ H => E cls d H) := takes_of rfl rfl rfl rfl
theorem takes_lam {A : Around} {outer : List Env} {s : Shared} {H : Hp} {E : XK} {scope : Scope} {f c' : Addr} : Takes (LamX.lamCx X A outer s H E scope f c') (fun cls d _ H => E cls d H) := takes_of rfl rfl rfl rfl
/-! raise x('..') -/
def sExc (c : Str) : En → Sto → Rs Fl := fun _ S => .exc c [] S
theorem ms_raise {x m : Str} {j : Nat} {p p2 pos pos' : Pos} {E : XK} (hc : X.calm = true) (tk : Takes X (fun cls d _ H => E cls d H)) (q : PySem.W.excIn X.K (He.ga X.K x) He.veBase "ValueError.__new__" = true ∧ PySem.W.keepIn X.K (.ref (He.ga X.K x)) = true ∧ PySem.W.subIn X.K (.ref (He.ga X.K x)) (.type "BaseException") = some true ∧ PySem.W.typeIn X.K (.ref (He.ga X.K x)) = some (.type "type"))
    (gC : X.mg x = some (.ref (He.ga X.K x))) (hg : Gl X x) (hdb : (x == ("__debug__" : Str)) = false := by decide) :
    MS X (wE (gX X) E) (.Raise (some (.Call (.Name x p) [.Constant (.str m) j p2] [] pos)) none pos') (sExc x) :=
  PS.imp (ps_raise hc tk (pmk_own PySem.F.excBase_ValueError q.1 gC q.2.1 (raises_own q.2.2.1 q.2.2.2) hg hdb)) fun Z σ H h => by
    obtain ⟨p, S, E', hs, he, h⟩ := h
    exact (h p H (Ext.refl _ _) hs).2
/-! a call that may raise -/
def mClX (n : Nat) (f : List D → Sto → Rs D) : List D → Sto → Rs D := fun ds S => if ds.length = n then f ds S else .bad
theorem me_clX {k j n : Nat} {mf : List D → Sto → Rs D} {x : Str} {p pos : Pos} {e : Expr} {es : List Expr} {t : En → Sto → Rs (List D)} {E : XK} (F : DefX X.prog X.w X.K X.mg X.base k x n mf) (hr : Room j X.A) (hk : k ≤ j) (hg : Gl X x) (tk : Takes X (fun cls d _ H => E cls d H))
    (ha : MA X (wE (gX X) E) (e :: es) t) (hdb : (x == ("__debug__" : Str)) = false := by decide) (he : starEach (e :: es) X.env = (false, eval e X.env) :: starEach es X.env := by rfl) (hpl : (backTo pos (starEach es X.env)).any (·.1) = false := by rfl) :
    ME X (wE (gX X) E) (.Call (.Name x p) (e :: es) [] pos) (mN (mClX n mf) t) := by
  obtain ⟨f, fd, ps, F1, hm, hkp, hb⟩ := F.ex
  refine PE.imp (pe_call F1 (hr.mono hk) hg hm hkp hb .nil (passes_call tk fun _ _ _ _ h => h) ha hdb he hpl) fun σ H Q q => ?_
  obtain ⟨p, S, E', hs, he, q⟩ := q
  refine ⟨p, S, E', hs, he, post_mono (fun ds S1 p1 H1 x1 hs1 q1 vs rvs => ?_) (post_bind q)⟩
  show spX (gX X) n mf (vs ++ []) H1 Q E
  rw [List.append_nil]
  unfold mClX at q1
  split at q1
  · rename_i hl
    exact ⟨by rw [← rvs.length]; exact hl, p1, S1, ds, hs1, rvs, q1⟩
  · exact q1.elim
end
end M

namespace M
open PySem L2 PySem.Spec
/-! ### what is told, or how it is refused: x(lambda: body) -/
def eOk (N : Nat) (d : D) : En := ((List.replicate N none).set 1 (some .non)).set 2 (some d)
def eEx (N n : Nat) : En := (List.replicate N none).set 1 (some (.ref n))
def mHeard (okc : Str → Bool) (N : Nat) (rest : En → Sto → Rs Fl) (r : Rs D) (n : Nat) : Rs D := match r with
  | .ok d S1 => (noX (rest (eOk N d) S1)).bind (endD n)
  | .exc c fs S1 => (match fs with
    | [] => if okc c = true then (noX (rest (eEx N S1.length) (S1 ++ [.ex c []]))).bind (endD n) else .bad
    | _ :: _ => .bad)
  | .bad => .bad
/-- the def gets a lambda f and calls it; tl: how the lambda reads -/
def Acts (Z : Cx) (a : Str) (f c' : Addr) (q : Str) (tl : XK → Hp → VK → Prop) : Prop :=
  ∀ (V : WX) (pn : List (Addr × Obj)) (xe : Value → Shared → Prop) (E : XK) (p1 p2 : Pos), Takes (Z.tr pn xe) V → (∀ cls d σ' H', E cls d H' → V cls d σ' H') →
    PE (Z.tr pn xe) (.Call (.Name a p1) [] [] p2) (fun σZ HZ Q => σZ[0]? = some (some (.ref f)) ∧ HZ c' = some (LamX.CodeO c' q) ∧ tl E HZ Q)
structure DefH (P : Program) (w : World) (K : PySem.W.Frag) (mg : Str → Option Value) (base : Heap) (k : Nat) (x : Str) (N : Nat) (okc : Str → Bool) (rest : En → Sto → Rs Fl) : Prop where
  ex : ∃ (g : Addr) (a : Str) (Ng : List Str) (params : Arguments) (body : List Stmt) (scope : Scope) (dV kV doc pm cdv ct oc : Value) (an od : Option Addr) (osl : Array (Option Value)),
    K.lookup g = some ⟨oc, od, .func (PySem.W.fnOf x x params body scope dV kV doc pm an cdv ct), osl⟩ ∧ PySem.W.codeIn K cdv x = true ∧ mg x = some (.ref g) ∧ PySem.W.keepIn K (.ref g) = true ∧
    Binds K (PySem.W.fnOf x x params body scope dV kV doc pm an cdv ct) [a] [] ∧ FnScope Ng [a] scope ∧ Ng[0]? = some a ∧ Vis scope a ∧ (a == ("__debug__" : Str)) = false ∧ (a == ("__classdict__" : Str)) = false ∧ Ng.length = N ∧
    ∀ (A : Around) (outer : List Env) (s : Shared) (H : Hp) (f c' : Addr) (q : Str) (tl : XK → Hp → VK → Prop), Room k (A.deeper (PyProof.Rows.envOfC x scope s.heap.objs.size g cdv)) → Acts (cxOf CX0 P w K mg base Ng x scope g cdv A outer s H E0) a f c' q tl →
      ∀ (p : List Addr) (S : Sto) (r : Rs D) (W : XW) (Q : VK), RS ⟨K, P, w⟩ p S H → H c' = some (LamX.CodeO c' q) →
      (∀ p' H', Ext ⟨K, P, w⟩ p H p' H' → RS ⟨K, P, w⟩ p' S H' → ∀ (E : XK) (Q' : VK), post ⟨K, P, w⟩ (wE ⟨K, P, w⟩ E) p' H' r (kE ⟨K, P, w⟩ Q') → tl E H' Q') →
      post ⟨K, P, w⟩ W p H (mHeard okc N rest r S.length) (kE ⟨K, P, w⟩ Q) →
      ∃ t, PSs (cxOf CX0 P w K mg base Ng x scope g cdv A outer s H E0) body t ∧ t { nx := fun _ H' => Q .non H', rt := Q } (L2.start Ng [.ref f]) H
section
variable {P : Program} {w : World} {K : PySem.W.Frag} {mg : Str → Option Value} {base : Heap}
theorem get_eOk {N i : Nat} {d d' : D} (h : (eOk N d)[i]? = some (some d')) : (i = 1 ∧ d' = .non) ∨ (i = 2 ∧ d' = d) := by
  unfold eOk at h
  by_cases h2 : 2 = i
  · subst h2
    rw [List.getElem?_set_self'] at h
    cases hq : ((List.replicate N (none : Option D)).set 1 (some .non))[2]? with
    | none => rw [hq] at h; cases h
    | some z => rw [hq] at h; cases h; exact .inr ⟨rfl, rfl⟩
  · rw [List.getElem?_set_ne h2] at h
    by_cases h1 : 1 = i
    · subst h1
      rw [List.getElem?_set_self'] at h
      cases hq : (List.replicate N (none : Option D))[1]? with
      | none => rw [hq] at h; cases h
      | some z => rw [hq] at h; cases h; exact .inl ⟨rfl, rfl⟩
    · rw [List.getElem?_set_ne h1, List.getElem?_replicate] at h
      split at h <;> cases h
theorem get_eEx {N i n : Nat} {d' : D} (h : (eEx N n)[i]? = some (some d')) : i = 1 ∧ d' = .ref n ∧ 1 < N := by
  unfold eEx at h
  by_cases h1 : 1 = i
  · subst h1
    rw [List.getElem?_set_self'] at h
    cases hq : (List.replicate N (none : Option D))[1]? with
    | none => rw [hq] at h; cases h
    | some z =>
      rw [hq] at h
      cases h
      refine ⟨rfl, rfl, ?_⟩
      have := (List.getElem?_eq_some_iff.mp hq).1
      simpa using this
  · rw [List.getElem?_set_ne h1, List.getElem?_replicate] at h
    split at h <;> cases h
theorem heard_ok {x a : Str} {st s1 : Stmt} {restS : List Stmt} {Ng : List Str} {k : Nat} {okc : Str → Bool} {rest : En → Sto → Rs Fl} {np rp vp ap fp dp cp ap2 hp tp : Pos} {le : Str}
    (F : ∃ fd, FunD K x x (defArgs st) (defBody st) (defScope st) [] [] (He.ga K x) fd) (hm : mg x = some (.ref (He.ga K x))) (Sg : FnScope Ng [a] (defScope st))
    (hbd : ∀ (kV doc pm : Value) (an : Option Addr) (cdv ct : Value) (us : List Value), us.length = [a].length → bindArgs (PySem.W.fnOf x x (defArgs st) (defBody st) (defScope st) .none kV doc pm an cdv ct) ⟨us, []⟩ = pure ([a].zip us))
    (n0 : Ng[0]? = some a) (n1 : Ng[1]? = some ("refused" : Str)) (n2 : Ng[2]? = some ("found" : Str)) (n3 : Ng[3]? = some ("e" : Str)) (hva : Vis (defScope st) a) (hda : (a == ("__debug__" : Str)) = false) (hdc : (a == ("__classdict__" : Str)) = false)
    (l1 : (defScope st).names.lookup ("refused" : Str) = some .local) (l2 : (defScope st).names.lookup ("found" : Str) = some .local) (l3 : (defScope st).names.lookup ("e" : Str) = some .local) (lg : (defScope st).names.lookup le = some .globalImplicit) (hle : mg le = some (.ref (He.ga K le))) (hld : (le == ("__debug__" : Str)) = false)
    (hok : ∀ c, okc c = true → PySem.W.exmOne K (.ref (He.ga K c)) (.ref (He.ga K le)) = some true)
    (hbody : defBody st = s1 :: .Try [.Assign [.Name "found" fp] (.Call (.Name a dp) [] [] cp) ap2] [.ExceptHandler (some (.Name le np)) (some "e") [.Assign [.Name "refused" rp] (.Name "e" vp) ap] hp] [] [] tp :: restS)
    (h1 : ∀ (A : Around) (outer : List Env) (s : Shared) (H : Hp), Room k (A.deeper (PyProof.Rows.envOfC x (defScope st) s.heap.objs.size (He.ga K x) (.ref (He.codeOf K (x, none))))) → MS (cxOf CX0 P w K mg base Ng x (defScope st) (He.ga K x) (.ref (He.codeOf K (x, none))) A outer s H E0).nox W0 s1 (sPar 1 2 (aCons (mC .non) (aCons (mC .non) aNil))))
    (h3 : ∀ (A : Around) (outer : List Env) (s : Shared) (H : Hp), Room k (A.deeper (PyProof.Rows.envOfC x (defScope st) s.heap.objs.size (He.ga K x) (.ref (He.codeOf K (x, none))))) → MSs (cxOf CX0 P w K mg base Ng x (defScope st) (He.ga K x) (.ref (He.codeOf K (x, none))) A outer s H E0).nox W0 restS rest)
    (hsw : ∀ Z : Cx, swapsWith (.Call (.Name a dp) [] [] cp) (some (.Name "found" fp)) ap2.line Z.env = pure false) (hsw2 : ∀ Z : Cx, swapsWith (.Name "e" vp) (some (.Name "refused" rp)) ap.line Z.env = pure false) :
    DefH P w K mg base k x Ng.length okc rest := by
  obtain ⟨fd, F⟩ := F
  have hbn := F.bindsN hbd
  have hkp := F.kp
  obtain ⟨oc, od, dV, kV, doc, pm, an, cdv, ct, osl, rfl, lk, hcd, _, _⟩ := F.ex
  obtain ⟨c, rfl⟩ := He.codeIn_ref hcd
  have ec : He.codeOf K (x, none) = c := He.codeOf_eq (p := (x, none)) lk rfl
  rw [ec] at h1 h3
  refine ⟨_, a, Ng, _, _, _, _, _, _, _, _, _, _, _, _, _, lk, hcd, hm, hkp, hbn, Sg, n0, hva, hda, hdc, rfl, fun A outer s H f c' q tl hr act p S r W Q hs hco htl hq => ?_⟩
  have nd := Sg.nd
  let Z : Cx := cxOf CX0 P w K mg base Ng x (defScope st) (He.ga K x) (.ref c) A outer s H E0
  have hT := ps_try_keep (X := Z.nox) (x := le) (n := "e") (r := "refused") (c := .ref (He.ga K le)) (i := 3) (j := 1) (np := np) (rp := rp) (vp := vp) (ap := ap) (pos := tp) (pos' := hp) (Wout := fun _ _ _ _ => False)
    (body := [.Assign [.Name "found" fp] (.Call (.Name a dp) [] [] cp) ap2])
    (tb := fun V D σ H => ∃ Ech : XK, (∀ cls d σ' H', Ech cls d H' → V cls d σ' H') ∧ σ[0]? = some (some (.ref f)) ∧ H c' = some (LamX.CodeO c' q) ∧ tl Ech H (fun v H' => D.nx (σ.set 2 (some v)) H'))
    rfl rfl rfl nd n3 n1 l3 l1 ⟨lg, hld, .inl hle⟩ LamX.takes0 (fun V pn xe tk _ => pss_one ⟨fun pins s' σ H' D I h' => by
      obtain ⟨Ech, hW, g1, g2, g3⟩ := h'
      exact (ps_set (pos' := fp) (pos := ap2) nd n2 (.inl l2) (act V pn xe Ech dp cp tk hW) (hsw _) (.inr l2)).run pins s' σ H' D I ⟨g1, g2, g3⟩⟩)
    (fun a' oe pn => pss_one (PS.imp (ps_set (pos' := rp) (pos := ap) nd n1 (.inl l1) (pe_var (pos := vp) (i := 3) n3 (.inl l3) (by decide) (by decide)) (hsw2 _) (.inr l1)) fun D σ H h => h))
  rw [hbody]
  refine ⟨_, PSs.nox (pss_cons (h1 A outer s H hr) (pss_cons hT (h3 A outer s H hr))), p, S, startE Ng.length [.raw (.ref f)], hs, RE.start Ng ⟨.ref f, [], rfl, rfl, rfl⟩, ?_⟩
  have hsp : sPar 1 2 (aCons (mC .non) (aCons (mC .non) aNil)) (startE Ng.length [.raw (.ref f)]) S = .ok (.nx (((startE Ng.length [.raw (.ref f)]).set 1 (some .non)).set 2 (some .non))) S := rfl
  rw [hsp]
  intro p1 H1 x1 hs1 σ1 he1
  have hl1 : σ1.length = Ng.length := by
    rw [← he1.len, List.length_set, List.length_set]
    unfold startE
    have : 1 ≤ Ng.length := (List.getElem?_eq_some_iff.mp n0).1
    simp; omega
  have hz0 : σ1[0]? = some (some (.ref f)) := by
    obtain ⟨v, e, rv⟩ := he1.get 0 (.raw (.ref f)) (by
      rw [List.getElem?_set_ne (by decide), List.getElem?_set_ne (by decide)]
      rfl)
    cases (show v = V.ref f from rv)
    exact e
  refine ⟨fun cls d H2 => ∀ σ', wKeep K (.ref (He.ga K le)) 3 1 Ng.length (fun _ _ _ _ => False) _ cls d σ' H2, fun cls d σ' H' h => h σ', hz0, x1.tup.cod _ _ hco, htl p1 H1 x1 hs1 _ _ ?_⟩
  -- behind the rest
  have rest_ok : ∀ (E2 : En) (S2 : Sto) (p2 : List Addr) (H2 : Hp) (σ2 : L2.St), Ext ⟨K, P, w⟩ p H p2 H2 → RS ⟨K, P, w⟩ p2 S2 H2 → RE ⟨K, P, w⟩ p2 H2 E2 σ2 → post ⟨K, P, w⟩ W p H ((noX (rest E2 S2)).bind (endD S.length)) (kE ⟨K, P, w⟩ Q) →
      lS ⟨K, P, w⟩ W0 rest { nx := fun _ H' => Q .non H', rt := Q, bk := fun _ _ => False, ct := fun _ _ => False } σ2 H2 := fun E2 S2 p2 H2 σ2 x2 hs2 he2 q2 => by
    refine ⟨p2, S2, E2, hs2, he2, post_mono (fun fl S3 p3 H3 x3 hs3 q3 => ?_) (post_noX (post_base x2 (post_bindB q2)))⟩
    cases fl with
    | nx E1 => exact fun σ' _ => gc_read (d := .non) (v := .non) hs (x2.trans x3) hs3 rfl q3
    | rt d => exact fun v rv => gc_read hs (x2.trans x3) hs3 rv q3
    | bk E1 => exact q3.elim
    | ct E1 => exact q3.elim
  cases r with
  | bad => exact hq.elim
  | ok d S1 =>
    intro p2 H2 x2 hs2 v rv
    refine rest_ok (eOk Ng.length d) S1 p2 H2 _ (x1.trans x2) hs2 ?_ hq
    have he2 := (he1.mono x2.pre x2.tup).set (i := 2) rv
    refine he2.weak ?_ fun i d' hi => ?_
    · unfold eOk startE
      have : 1 ≤ Ng.length := (List.getElem?_eq_some_iff.mp n0).1
      simp; omega
    · have hlen : (startE Ng.length [.raw (.ref f)]).length = Ng.length := by
        unfold startE
        have : 1 ≤ Ng.length := (List.getElem?_eq_some_iff.mp n0).1
        simp; omega
      have w2 : 2 < Ng.length := (List.getElem?_eq_some_iff.mp n2).1
      rcases get_eOk hi with ⟨rfl, rfl⟩ | ⟨rfl, rfl⟩
      · rw [List.getElem?_set_ne (by decide), List.getElem?_set_ne (by decide), List.getElem?_set_self (by rw [hlen]; omega)]
      · rw [List.getElem?_set_self (by rw [List.length_set, List.length_set, hlen]; exact w2)]
  | exc cc fs S1 =>
    intro p2 H2 x2 hs2
    cases fs with
    | cons _ _ => exact hq.elim
    | nil =>
      have hq' : post ⟨K, P, w⟩ W p H (if okc cc = true then (noX (rest (eEx Ng.length S1.length) (S1 ++ [.ex cc []]))).bind (endD S.length) else .bad) (kE ⟨K, P, w⟩ Q) := hq
      split at hq'
      · rename_i hcc
        refine ⟨rfl, fun σ' => ⟨true, hok cc hcc, fun _ b hb hl => ?_, fun z => by cases z⟩⟩
        have hs3 := hs2.alloc (a := b) (o := .ex cc []) (x := ExC (.ref (He.ga K cc)) none b) hb ⟨none, rfl, .inl ⟨rfl, rfl⟩⟩
        refine rest_ok (eEx Ng.length S1.length) (S1 ++ [.ex cc []]) (p2 ++ [b]) _ _ ((x1.trans x2).trans (Ext.alloc hb)) hs3 ⟨?_, fun i d' hi => ?_⟩ hq'
        · unfold eEx
          simp [hl]
        · obtain ⟨rfl, rfl, hN⟩ := get_eEx hi
          refine ⟨.ref b, ?_, b, ?_, rfl⟩
          · rw [List.getElem?_set_ne (by decide), List.getElem?_set_self (by rw [List.length_set, hl]; exact hN)]
          · rw [← hs2.len]; simp
      · exact hq'.elim
end
end M

namespace M
open PySem L2 PySem.Spec
section
variable {X : Cx} {W : XW}
def mLam (P : Addr) (q : Str) (ti : Nat) (okc : Str → Bool) (N : Nat) (rest : En → Sto → Rs Fl) (mb : En → Sto → Rs D) : En → Sto → Rs D := fun E S => match S[ti]? with
  | some (.tb P' q') => if P' = P ∧ q' = q then mHeard okc N rest (mb E S) S.length else .bad
  | _ => .bad
/-- a table of the store is told by its address -/
theorem tab_one {p : List Addr} {S : Sto} {H : Hp} {ti : Nat} {P : Addr} {q : Str} (hs : RS (gX X) p S H) (ht : S[ti]? = some (.tb P q)) : ∀ x ∈ tabsOf S, x.1 = P → x.2 = q := fun x hx ex => by
  obtain ⟨o, ho, e⟩ := List.mem_filterMap.mp hx
  obtain ⟨m, hm, em⟩ := List.getElem_of_mem ho
  have eS : S[m]? = some o := by rw [← em]; simp [hm]
  cases o with
  | tb P2 q2 =>
    cases e
    obtain ⟨a, ea⟩ := hs.lt eS
    obtain ⟨y, _, rfl, _⟩ := hs.get m a _ ea eS
    obtain ⟨b, eb⟩ := hs.lt ht
    obtain ⟨z, _, rfl, _⟩ := hs.get ti b _ eb ht
    have eab : a = b := ex
    subst eab
    obtain ⟨g1, q1⟩ := List.getElem?_eq_some_iff.mp ea
    obtain ⟨g2, q2'⟩ := List.getElem?_eq_some_iff.mp eb
    have : m = ti := (List.getElem_inj hs.nd).mp (q1.trans q2'.symm)
    subst this
    rw [ht] at eS
    cases eS
    rfl
  | _ => cases e
theorem me_heard {x : Str} {k N ti : Nat} {P c : Addr} {okc : Str → Bool} {rest : En → Sto → Rs Fl} {params : Arguments} {body : Expr} {scope : Scope} {mb : En → Sto → Rs D} {p lpos pos : Pos} (D : DefH X.prog X.w X.K X.mg X.base (k + 1) x N okc rest) (hg : Gl X x) (TB : LamX.TabB X.base X.mg c P) (hcode : X.env.code = .ref c) (hr : Room (k + 2) X.A)
    (L : LamX.LamS X.env.scope scope) (hdef : defaultsOf params X.env = ([], [])) (hbind : ∀ (q : Str) (cl : List (Str × Addr)) (pm cv ctv : Value), bindArgs (PySem.W.kla_fn "<lambda>" q params body scope cl pm cv ctv) ⟨[], []⟩ = pure [])
    (hbody : ∀ (A : Around) (outer : List Env) (s : Shared) (H : Hp) (E : XK) (f c' : Addr), Room k (A.deeper (LamX.lamEnv X scope s.heap.objs.size f c')) → ME (LamX.lamCx X A outer s H E scope f c') (wE (gX X) E) body mb)
    (hdb : (x == ("__debug__" : Str)) = false := by decide) :
    ME X W (.Call (.Name x p) [.Lambda params body scope lpos] [] pos) (mLam P (X.env.qual ++ "<lambda>") ti okc N rest mb) := by
  obtain ⟨g, a, Ng, pg, bg, sg, dV, kV, doc, pm, cdv, ct, oc, an, od, osl, lk, hcd, hm, hkp, hb, Sg, n0, hva, hda, hdc, hN, run⟩ := D.ex
  refine ⟨fun pins s σ H Q I q => ?_⟩
  obtain ⟨pp, S, E, hs, hE, q⟩ := q
  unfold mLam at q
  split at q
  · rename_i P' q' ht
    split at q
    · rename_i hPq
      obtain ⟨rfl, rfl⟩ := hPq
      have hmT : (P', X.env.qual ++ "<lambda>") ∈ tabsOf S := List.mem_filterMap.mpr ⟨_, List.mem_of_getElem? ht, rfl⟩
      refine wpAny_Call_Name_kw (ld_glob I hg hm ?_ hdb)
      refine PySem.W.callWith_K (h₀ := X.base) I.ok.mod.kin hkp ?_ (by rfl) (by rfl)
      show wpAny _ _ (spliced ((false, eval (.Lambda params body scope lpos) X.env) :: backTo pos (starEach [] X.env))) _ _ s
      refine Calls.spliced_cons (LamX.lam_make2 I TB hcode hmT (tab_one hs ht) (tabs_of hs) hdef (L.has I.ok) fun f c' pm' ctv H1 s' I1 eN T1 hf hfn hfr hco => ?_)
      refine Calls.spliced_nil ⟨I1.kIn, ?_⟩
      obtain ⟨hs1, x1⟩ := lam_rs hs eN T1
      have hE1 := hE.mono x1.pre x1.tup
      have rc : codeAny (model X.prog X.w) X.A (.call (.ref g) ⟨[.ref f], []⟩) (CR CX0 X.stack X.prog X.w H1 s' Q E0) s' := by
        refine LamX.run_ofS (N := Ng) (ps := [a]) (us := [.ref f]) (vs := [.ref f]) lk hcd Sg hr I1.env0 (hb s' [.ref f] I1.kIn rfl) (.cons rfl .nil) rfl fun hr' => ?_
        exact run X.A X.stack s' H1 f c' (X.env.qual ++ "<lambda>") (fun E2 H' Q' => lE (gX X) (wE (gX X) E2) mb σ H' Q') hr'
          (fun V pn xe E2 p1 p2 tk hW => LamX.pe_act (i := 0) (k := k) I1 L hf hfn hfr (hbind _ _ _ _ _) tk hW hr' (fun A outer s H hr2 => hbody A outer s H E2 f c' hr2) n0 hva hda hdc)
          pp S (mb E S) W Q hs1 hco (fun p' H' x' hs' E2 Q' h => ⟨p', S, E, hs', hE1.mono x'.pre x'.tup, h⟩) (post_base x1 q)
      refine wpAny_call (codeAny_mono rc fun r s2 hq => ?_)
      cases r with
      | error e => exact (show False from hq).elim
      | ok fl =>
        cases fl with
        | ret u => exact I1.after hq
        | next => exact False.elim hq
        | brk => exact False.elim hq
        | cont => exact False.elim hq
    · exact q.elim
  · exact q.elim
/-! ### isinstance(e, class) of a caught exception -/
def fIsX (sub : Str → Option Bool) (d : D) (S : Sto) : Rs D := match d with
  | .ref n => (match S[n]? with
    | some (.ex c []) => (match sub c with
      | some b => .ok (.bl b) S
      | none => .bad)
    | _ => .bad)
  | _ => .bad
/-- the class is one of the program's -/
theorem me_isX {e : Expr} {m : En → Sto → Rs D} {y : Str} {sub : Str → Option Bool} {p p2 pos : Pos} (hg : Gl X "isinstance") (hm : X.mg "isinstance" = none) (he : ME X W e m) (hy : Gl X y) (hyg : X.mg y = some (.ref (He.ga X.K y)))
    (hsub : ∀ c b, sub c = some b → ExcC X.K (He.ga X.K c) ∧ PySem.W.kitOne X.K (.ref (He.ga X.K c)) (.ref (He.ga X.K y)) = some b) (hdb : (y == ("__debug__" : Str)) = false := by decide)
    (hs1 : starEach [e, .Name y p2] X.env = (false, eval e X.env) :: starEach [.Name y p2] X.env := by rfl) (hs2 : starEach [.Name y p2] X.env = (false, eval (.Name y p2) X.env) :: starEach [] X.env := by rfl) (hpl : (backTo pos (starEach [.Name y p2] X.env)).any (·.1) = false := by rfl) :
    ME X W (.Call (.Name "isinstance" p) [e, .Name y p2] [] pos) (m1 (fIsX sub) m) :=
  PE.imp (pe_callB call_isX hg hm PyProof.Rows.boot_isinstance (pa_cons he (pa_cons (pe_glob (v := .ref (He.ga X.K y)) hy hyg rfl hdb) pa_nil hs2) hs1) (by decide) (by decide) hs1 hpl) fun σ H Q q => by
    obtain ⟨pp, S, E, hs, he, q⟩ := q
    refine lE_step hs he (post_mono (fun d S1 p1 H1 x1 hs1 q1 v rv => ?_) (post_bind q))
    unfold fIsX at q1
    split at q1
    · rename_i n
      obtain ⟨a, ea, rfl⟩ := rv
      split at q1
      · rename_i c hc
        split at q1
        · rename_i b hb
          obtain ⟨xx, ex, d, rfl, hd⟩ := hs1.get n a _ ea hc
          have hd0 : d = none := by
            rcases hd with ⟨_, h⟩ | ⟨h0, _⟩
            · exact h
            · exact absurd rfl h0
          subst hd0
          obtain ⟨h1, h2⟩ := hsub c b hb
          exact ⟨a, He.ga X.K c, _, .ref (He.ga X.K y), b, rfl, ex, h1, fun u r => r, h2, post_ok q1 hs1 _ rfl⟩
        · exact q1.elim
      · exact q1.elim
    · exact q1.elim
end
end M

namespace M
open PySem L2
section
variable {X : Cx} {W : XW}
/-! ### methods of lists -/
def isLs (S : Sto) (d : D) : Bool := match d with
  | .ref n => (match S[n]? with
    | some (.lst _) => true
    | _ => false)
  | _ => false
theorem isLs_read {p : List Addr} {S : Sto} {H : Hp} {d : D} {v : V} (hs : RS (gX X) p S H) (r : RD (gX X) p H d v) (h : isLs S d = true) : tyV X.K "list" v H := by
  unfold isLs at h
  split at h
  · rename_i n
    obtain ⟨a, ea, rfl⟩ := r
    split at h
    · rename_i ds hd
      obtain ⟨x, ex, vs, rfl, rs⟩ := hs.get n a _ ea hd
      exact .inl ⟨rfl, vs, .of ex⟩
    · cases h
  · cases h
def mMeth (f : D → List D → Sto → Rs D) (mo : En → Sto → Rs D) (t : En → Sto → Rs (List D)) : En → Sto → Rs D := fun E S => (mo E S).bind fun x S1 => if isLs S1 x then (t E S1).bind fun xs S2 => f x xs S2 else .bad
theorem me_meth {o e : Expr} {es : List Expr} {name : Str} {id : String} {r : V → List V → Hp → VK → Prop} {f : D → List D → Sto → Rs D} {mo : En → Sto → Rs D} {t : En → Sto → Rs (List D)} {apos cpos : Pos} (slot : Slot "list" name id) (hty : typeOf (.builtin id) = pure (.type "method_descriptor")) (hm : MtR X id r) (hp : PrimM (gX X) W r f) (ho : ME X W o mo) (ha : MA X W (e :: es) t)
    (hbase : attributeBase o name X.env (eval o X.env) = eval o X.env := by rfl)
    (hfew : ((backTo cpos (starEach (e :: es) X.env)).all (fun x => !x.1) && (backToKw cpos (keywordEach [] X.env)).all (fun x => x.1.isSome)
      && decide ((e :: es).length + ([] : List Keyword).length + (if ([] : List Keyword).isEmpty then 0 else 1) < 30)) = true := by rfl)
    (hline : (apos.endLine == cpos.line) = true := by rfl) (hst : starEach (e :: es) X.env = (false, eval e X.env) :: starEach es X.env := by rfl) (hplain : (backTo cpos (starEach es X.env)).any (·.1) = false := by rfl) :
    ME X W (.Call (.Attribute o name apos) (e :: es) [] cpos) (mMeth f mo t) :=
  PE.imp (pe_bm PySem.F.plainAttrs_list slot hty hm ho ha hbase hfew hline hst hplain) fun σ H Q q => by
    obtain ⟨p, S, E, hs, he, q⟩ := q
    refine lE_step hs he (post_mono (fun x S1 p1 H1 x1 hs1 q1 v rv => ?_) (post_bind q))
    split at q1
    · rename_i hl
      refine ⟨isLs_read hs1 rv hl, p1, S1, E, hs1, he.mono x1.pre x1.tup, post_mono (fun ds S2 p2 H2 x2 hs2 q2 vs rvs => ?_) (post_bind q1)⟩
      exact hp p2 S2 H2 x ds v vs Q hs2 (rv.mono x2.pre x2.tup) rvs q2
    · exact q1.elim
def fAppend (x : D) (xs : List D) (S : Sto) : Rs D := match x, xs with
  | .ref n, [y] => (match S[n]? with
    | some (.lst ds) => if ds.length < sizeLine then .ok .non (S.set n (.lst (ds ++ [y]))) else .bad
    | _ => .bad)
  | _, _ => .bad
theorem pr_append : PrimM (gX X) W rAppend fAppend := by
  intro p S H x xs v vs Q hs rx rxs q
  unfold fAppend at q
  split at q
  · rename_i n y
    obtain ⟨a, ea, rfl⟩ := rx
    obtain ⟨u, r, rfl, ru, hr⟩ := rxs
    cases (show r = [] from hr)
    split at q
    · rename_i ds hd
      split at q
      · rename_i hz
        obtain ⟨z, ez, us, rfl, rs⟩ := hs.get n a _ ea hd
        refine ⟨a, us, u, rfl, rfl, ez, by rw [← rs.length]; exact hz, ?_⟩
        have x1 : Ext (gX X) p H p (upd H a (.lst (us ++ [u]))) := Ext.set (mem_of_get ea) ez (.inl rfl) (fun _ _ z => by cases z)
        exact q p _ x1 (hs.set ea hd ez (.inl rfl) ⟨_, rfl, rs.append (.one ru)⟩) .non rfl
      · exact q.elim
    · exact q.elim
  · exact q.elim
/-- where an int stands -/
def ixI (ns : List Int) (k : Int) : Option Nat := if ns.findIdx (fun x => x == k) < ns.length then some (ns.findIdx fun x => x == k) else none
theorem ixI_ok {ns : List Int} {k : Int} {j : Nat} (h : ixI ns k = some j) : ns[j]? = some k ∧ ∀ m, m < j → ns[m]? ≠ some k := by
  unfold ixI at h
  split at h
  · rename_i hlt
    cases h
    refine ⟨?_, fun m hm z => ?_⟩
    · rw [List.getElem?_eq_getElem hlt]
      have := List.findIdx_getElem (p := fun x => x == k) (w := hlt)
      congr 1
      simpa using this
    · have := List.not_of_lt_findIdx hm
      obtain ⟨h1, h2⟩ := List.getElem?_eq_some_iff.mp z
      rw [h2] at this
      simp at this
  · cases h
def fRemove (x : D) (xs : List D) (S : Sto) : Rs D := match x, xs with
  | .ref n, [.int k] => (match S[n]? with
    | some (.lst ds) => (match toInts ds with
      | some ns => (match ixI ns k with
        | some j => .ok .non (S.set n (.lst ((ns.eraseIdx j).map .int)))
        | none => .bad)
      | none => .bad)
    | _ => .bad)
  | _, _ => .bad
theorem pr_remove : PrimM (gX X) W rRemI fRemove := by
  intro p S H x xs v vs Q hs rx rxs q
  unfold fRemove at q
  split at q
  · rename_i n k
    obtain ⟨a, ea, rfl⟩ := rx
    obtain ⟨u, r, rfl, ru, hr⟩ := rxs
    cases (show r = [] from hr)
    cases (show u = V.int k from ru)
    split at q
    · rename_i ds hd
      split at q
      · rename_i ns hn
        split at q
        · rename_i j hj
          obtain ⟨z, ez, us, rfl, rs⟩ := hs.get n a _ ea hd
          rw [toInts_eq hn] at rs
          rw [ints_read rs] at ez
          obtain ⟨j1, j2⟩ := ixI_ok hj
          refine ⟨a, ns, k, j, rfl, rfl, ez, j1, j2, ?_⟩
          have x1 : Ext (gX X) p H p (upd H a (.lst ((ns.eraseIdx j).map V.int))) := Ext.set (mem_of_get ea) ez (.inl rfl) (fun _ _ z => by cases z)
          exact q p _ x1 (hs.set ea hd ez (.inl rfl) ⟨_, rfl, rds_ints _⟩) .non rfl
        · exact q.elim
      · exact q.elim
    · exact q.elim
  · exact q.elim
def fCountL (x : D) (xs : List D) (S : Sto) : Rs D := match x, xs with
  | .ref n, [.int k] => (match S[n]? with
    | some (.lst ds) => (match toInts ds with
      | some ns => .ok (.int (ns.count k : Nat)) S
      | none => .bad)
    | _ => .bad)
  | _, _ => .bad
theorem pr_countL : PrimM (gX X) W (rCntI X.K) fCountL := by
  intro p S H x xs v vs Q hs rx rxs q
  unfold fCountL at q
  split at q
  · rename_i n k
    obtain ⟨a, ea, rfl⟩ := rx
    obtain ⟨u, r, rfl, ru, hr⟩ := rxs
    cases (show r = [] from hr)
    cases (show u = V.int k from ru)
    split at q
    · rename_i ds hd
      split at q
      · rename_i ns hn
        obtain ⟨z, ez, us, rfl, rs⟩ := hs.get n a _ ea hd
        rw [toInts_eq hn] at rs
        rw [ints_read rs] at ez
        exact ⟨a, ns, k, rfl, rfl, .of ez, post_ok q hs _ rfl⟩
      · exact q.elim
    · exact q.elim
  · exact q.elim
def fIndexL (x : D) (xs : List D) (S : Sto) : Rs D := match x, xs with
  | .ref n, [.int k] => (match S[n]? with
    | some (.lst ds) => (match toInts ds with
      | some ns => (match ixI ns k with
        | some j => .ok (.int (j : Nat)) S
        | none => .bad)
      | none => .bad)
    | _ => .bad)
  | _, _ => .bad
theorem pr_indexL : PrimM (gX X) W (rIndex X.K) fIndexL := by
  intro p S H x xs v vs Q hs rx rxs q
  unfold fIndexL at q
  split at q
  · rename_i n k
    obtain ⟨a, ea, rfl⟩ := rx
    obtain ⟨u, r, rfl, ru, hr⟩ := rxs
    cases (show r = [] from hr)
    cases (show u = V.int k from ru)
    split at q
    · rename_i ds hd
      split at q
      · rename_i ns hn
        split at q
        · rename_i j hj
          obtain ⟨z, ez, us, rfl, rs⟩ := hs.get n a _ ea hd
          rw [toInts_eq hn] at rs
          rw [ints_read rs] at ez
          obtain ⟨j1, j2⟩ := ixI_ok hj
          refine ⟨a, ns.map V.int, .int k, j, .int k, rfl, rfl, .of ez, rfl, ?_, by rw [List.getElem?_map, j1]; rfl, ?_, fun m z' hm hz => ?_, post_ok q hs _ rfl⟩
          · rw [List.all_eq_true]
            intro w hw
            obtain ⟨i, _, rfl⟩ := List.mem_map.mp hw
            rfl
          · show (k == k) = true
            simp
          · rw [List.getElem?_map] at hz
            cases hq : ns[m]? with
            | none => rw [hq] at hz; cases hz
            | some i =>
              rw [hq] at hz
              cases hz
              show (i == k) = false
              have := j2 m hm
              rw [hq] at this
              simpa using fun e => this (by rw [e])
        · exact q.elim
      · exact q.elim
    · exact q.elim
  · exact q.elim
end
end M

namespace M
open PySem L2
section
variable {X : Cx} {W : XW}
/-! ### d.update(e), both by ints and texts -/
def rUpd : V → List V → Hp → VK → Prop := fun x xs H Q => ∃ (a b : Addr) (ks ls : List (Key × V)), x = .ref a ∧ xs = [.ref b] ∧ a ≠ b ∧ H a = some (.dK ks) ∧ H b = some (.dK ls) ∧ ks.length + ls.length ≤ sizeLine ∧ Q .non (upd H a (.dK (mergeK ks ls)))
theorem mt_upd : MtR X "dict.update" rUpd := by
  intro pins s σ H x xs v us Q I rx rxs h
  obtain ⟨a, b, ks, ls, rfl, rfl, hab, ha, hb, hz, q⟩ := h
  obtain rfl : v = Value.ref a := rx
  rw [Vals.ref1 rxs]
  obtain ⟨z1, sm1, vs1, kv1, d1⟩ := dk_of I.hok ha
  obtain ⟨z2, sm2, vs2, kv2, d2⟩ := dk_of I.hok hb
  have l1 : ks.length = vs1.length := Paired.length kv1
  have l2 : ls.length = vs2.length := Paired.length kv2
  refine call_meetsIn F.slot_dict_update d1.typeIs F.entry_dict_update (F.args_dict_update_2 _ _) (meets_dict_update (mixKind X.prog X.w) a b hab sm2) ⟨vs1, vs2, d1, d2, by omega, fun h' d' _ hs => ?_⟩
  have he : ∃ q, h'.get? a = some q := let ⟨q, _, _, hq, _⟩ := d'; ⟨q, hq⟩
  have hl := length_mergeK ls ks
  exact ⟨.non, _, d_write I (by rw [ha]; exact True.intro) hs he (dk_new (by omega) sm1 (kv2.merge kv1) d'), rfl, q⟩
def isDo (S : Sto) (d : D) : Bool := match d with
  | .ref n => (match S[n]? with
    | some (.dk _) => true
    | _ => false)
  | _ => false
theorem isDo_read {p : List Addr} {S : Sto} {H : Hp} {d : D} {v : V} (hs : RS (gX X) p S H) (r : RD (gX X) p H d v) (h : isDo S d = true) : tyV X.K "dict" v H := by
  unfold isDo at h
  split at h
  · rename_i n
    obtain ⟨a, ea, rfl⟩ := r
    split at h
    · rename_i ds hd
      obtain ⟨x, ex, vs, rfl, rs⟩ := hs.get n a _ ea hd
      exact .inr (.inr (.inl ⟨rfl, .inl ⟨vs, ex⟩⟩))
    · cases h
  · cases h
def fUpd (x : D) (xs : List D) (S : Sto) : Rs D := match x, xs with
  | .ref n, [.ref m] => if n = m then .bad else (match S[n]?, S[m]? with
    | some (.dk kvs), some (.dk more) => if kvs.length + more.length ≤ sizeLine then .ok .non (S.set n (.dk (mergeD kvs more))) else .bad
    | _, _ => .bad)
  | _, _ => .bad
theorem pr_upd : PrimM (gX X) W rUpd fUpd := by
  intro p S H x xs v vs Q hs rx rxs q
  unfold fUpd at q
  split at q
  · rename_i n m
    obtain ⟨a, ea, rfl⟩ := rx
    obtain ⟨u, r, rfl, ⟨b, eb, rfl⟩, hr⟩ := rxs
    cases (show r = [] from hr)
    split at q
    · exact q.elim
    · rename_i hnm
      split at q
      · rename_i kvs more h1 h2
        split at q
        · rename_i hz
          obtain ⟨y1, ey1, ws1, rfl, rk1⟩ := hs.get n a _ ea h1
          obtain ⟨y2, ey2, ws2, rfl, rk2⟩ := hs.get m b _ eb h2
          have hab : a ≠ b := fun z => by
            subst z
            obtain ⟨g1, q1⟩ := List.getElem?_eq_some_iff.mp ea
            obtain ⟨g2, q2⟩ := List.getElem?_eq_some_iff.mp eb
            exact hnm ((List.getElem_inj hs.nd).mp (q1.trans q2.symm))
          refine ⟨a, b, ws1, ws2, rfl, rfl, hab, ey1, ey2, by rw [← rk1.length, ← rk2.length]; exact hz, ?_⟩
          have x1 : Ext (gX X) p H p (upd H a (.dK (mergeK ws1 ws2))) := Ext.set (mem_of_get ea) ey1 (.inl rfl) (fun _ _ z => by cases z)
          exact q p _ x1 (hs.set ea h1 ey1 (.inl rfl) ⟨_, rfl, rk2.merge rk1⟩) .non rfl
        · exact q.elim
      · exact q.elim
  · exact q.elim
def mMethD (f : D → List D → Sto → Rs D) (mo : En → Sto → Rs D) (t : En → Sto → Rs (List D)) : En → Sto → Rs D := fun E S => (mo E S).bind fun x S1 => if isDo S1 x then (t E S1).bind fun xs S2 => f x xs S2 else .bad
theorem me_upd {o e : Expr} {es : List Expr} {mo : En → Sto → Rs D} {t : En → Sto → Rs (List D)} {apos cpos : Pos} (ho : ME X W o mo) (ha : MA X W (e :: es) t)
    (hbase : attributeBase o "update" X.env (eval o X.env) = eval o X.env := by rfl)
    (hfew : ((backTo cpos (starEach (e :: es) X.env)).all (fun x => !x.1) && (backToKw cpos (keywordEach [] X.env)).all (fun x => x.1.isSome)
      && decide ((e :: es).length + ([] : List Keyword).length + (if ([] : List Keyword).isEmpty then 0 else 1) < 30)) = true := by rfl)
    (hline : (apos.endLine == cpos.line) = true := by rfl) (hst : starEach (e :: es) X.env = (false, eval e X.env) :: starEach es X.env := by rfl) (hplain : (backTo cpos (starEach es X.env)).any (·.1) = false := by rfl) :
    ME X W (.Call (.Attribute o "update" apos) (e :: es) [] cpos) (mMethD fUpd mo t) :=
  PE.imp (pe_bm PySem.F.plainAttrs_dict PySem.F.slot_dict_update PySem.F.type_dict_update mt_upd ho ha hbase hfew hline hst hplain) fun σ H Q q => by
    obtain ⟨p, S, E, hs, he, q⟩ := q
    refine lE_step hs he (post_mono (fun x S1 p1 H1 x1 hs1 q1 v rv => ?_) (post_bind q))
    split at q1
    · rename_i hl
      refine ⟨isDo_read hs1 rv hl, p1, S1, E, hs1, he.mono x1.pre x1.tup, post_mono (fun ds S2 p2 H2 x2 hs2 q2 vs rvs => ?_) (post_bind q1)⟩
      exact pr_upd p2 S2 H2 x ds v vs Q hs2 (rv.mono x2.pre x2.tup) rvs q2
    · exact q1.elim
end
end M

namespace M
open PySem L2 PySem.W
/-! ### min of a list of pairs of ints -/
abbrev prD (p : Int × Int) : PyData := .tuple [.int p.1, .int p.2]
def ltP2 (y a : Int × Int) : Bool := decide (y.1 < a.1 ∨ (y.1 = a.1 ∧ y.2 < a.2))
def minP (p : Int × Int) (ps : List (Int × Int)) : Int × Int := ps.foldl (fun a y => if ltP2 y a then y else a) p
theorem minD_pairs : ∀ {ps : List (Int × Int)} {p : Int × Int}, minD (prD p) (ps.map prD) = prD (minP p ps)
  | [], p => rfl
  | y :: ps, p => by
    have e : dataLt (prD y) (prD p) = ltP2 y p := dataLt_ii ..
    show minD (if dataLt (prD y) (prD p) then prD y else prD p) (ps.map prD) = prD (minP (if ltP2 y p then y else p) ps)
    rw [e]
    split
    · exact minD_pairs
    · exact minD_pairs
theorem reads_pair {h : Heap} {u : Value} {p q : Int × Int} {as bs : List Addr} (a : Reads h u (prD p) as) (b : Reads h u (prD q) bs) : p = q := by
  have e := (Reads.unique a (prD q) bs b).1
  injection e with e
  injection e with e1 e2
  injection e1 with e1
  injection e2 with e2 _
  injection e2 with e2
  exact Prod.ext e1 e2
section
variable {X : Cx} {W : XW}
def rMinP (K : PySem.W.Frag) : List V → Hp → VK → Prop := fun xs H Q => ∃ (l : Addr) (ys : List V) (p : Int × Int) (ps : List (Int × Int)), xs = [.ref l] ∧ SqL K H l ys ∧ DpAll K H ys ((p :: ps).map prD) ∧ ∀ (v : V) (i : Nat), ys[i]? = some v → (p :: ps)[i]? = some (minP p ps) → Q v H
theorem depth_pairs : ∀ ps : List (Int × Int), PyData.depthAll (ps.map prD) ≤ 8
  | [] => by decide
  | p :: ps => by
    have := depth_pairs ps
    rw [List.map_cons, PyData.depthAll]
    have h : (prD p).depth ≤ 8 := by
      show PyData.depth (.tuple [.int p.1, .int p.2]) ≤ 8
      simp [PyData.depth, PyData.depthAll]
    omega
theorem cr_minP (hc : X.calm = true) (hu : X.A.units + 64 < cLine) : CallR X (.builtin "min") (rMinP X.K) := by
  intro pins s σ H xs us Q I r h
  obtain ⟨l, ys, p, ps, rfl, hl, hd, q⟩ := h
  rw [Vals.ref1 r]
  obtain ⟨its, rv, pl, hz⟩ := I.list hl
  obtain ⟨as, ra⟩ := Dp.readsAll I _ _ _ hd rv
  have al : AlikeAll ((p :: ps).map prD) := by
    refine ⟨fun x hx y hy => ?_, fun x hx z => ?_⟩
    · obtain ⟨a, _, rfl⟩ := List.mem_map.mp hx
      obtain ⟨b, _, rfl⟩ := List.mem_map.mp hy
      rfl
    · obtain ⟨a, _, rfl⟩ := List.mem_map.mp hx
      cases z
  have dp := depth_pairs (p :: ps)
  have ra' : ReadsAll s.heap its.toArray.toList (prD p :: ps.map prD) as := ra
  refine min_list_data (I.ok.hd hc) pl.isList ra' al (by
    have : PyData.depthAll (prD p :: ps.map prD) ≤ 8 := dp
    omega) fun i v h' tk bs hv hr hk => ?_
  have hv' : its[i]? = some v := by rw [← hv]; simp
  obtain ⟨cs, r2, hlt, _⟩ := readsAll_at ra i v hv'
  rw [minD_pairs] at hr
  have hi : i < (p :: ps).length := by
    have := hlt
    simpa using this
  have e1 : (p :: ps)[i]? = some (minP p ps) := by
    have r3 : Reads s.heap v (prD ((p :: ps)[i])) cs := by
      have e : ((p :: ps).map prD).getD i .none = prD ((p :: ps)[i]) := by
        rw [List.getD_eq_getElem?_getD, List.getElem?_map, List.getElem?_eq_getElem hi]; rfl
      rw [← e]
      exact r2
    have r4 := reads_keeps hk r3
    rw [List.getElem?_eq_getElem hi, reads_pair r4 hr]
  have hy : ∃ w, ys[i]? = some w ∧ RelV w v := by
    have hi2 : i < ys.length := by rw [rv.length]; exact (List.getElem?_eq_some_iff.mp hv').1
    obtain ⟨u', e', ru⟩ := Vals.get rv (i := i) (x := ys[i]) (by simp [hi2])
    rw [hv'] at e'
    cases e'
    exact ⟨ys[i], by simp [hi2], ru⟩
  obtain ⟨w, hw, rw'⟩ := hy
  exact ⟨w, H, I.kept (t' := tk) hk, rw', q w i hw e1⟩
end
end M

namespace M
open PySem L2
section
variable {X : Cx} {W : XW}
def prT (p : Int × Int) : D := .tup [.int p.1, .int p.2]
def toPairs : List D → Option (List (Int × Int))
  | [] => some []
  | .tup [.int a, .int b] :: r => (toPairs r).map ((a, b) :: ·)
  | _ :: _ => none
theorem toPairs_eq : ∀ {ds : List D} {ps : List (Int × Int)}, toPairs ds = some ps → ds = ps.map prT
  | [], ps, h => by cases h; rfl
  | d :: r, ps, h => by
    unfold toPairs at h
    split at h
    · rename_i h0; cases h0
    · rename_i a b r' h0
      cases h0
      obtain ⟨qs, h1, rfl⟩ := Option.map_eq_some_iff.mp h
      rw [toPairs_eq h1]; rfl
    · cases h
theorem toPairs_map {ps : List (Int × Int)} : toPairs (ps.map prT) = some ps := by
  induction ps with
  | nil => rfl
  | cons p ps ih =>
    show (toPairs (ps.map prT)).map ((p.1, p.2) :: ·) = _
    rw [ih]; rfl
theorem dp_pairs {p : List Addr} {H : Hp} : ∀ {ps : List (Int × Int)} {vs : List V}, RDs (gX X) p H (ps.map prT) vs → DpAll X.K H vs (ps.map prD)
  | [], vs, h => by cases (show vs = [] from h); exact .nil
  | q :: ps, vs, h => by
    obtain ⟨v, r, rfl, ⟨a, us, rfl, e, hu⟩, h2⟩ := h
    obtain ⟨u1, r1, rfl, e1, h3⟩ := hu
    obtain ⟨u2, r2, rfl, e2, h4⟩ := h3
    cases (show r2 = [] from h4)
    cases (show u1 = V.int q.1 from e1)
    cases (show u2 = V.int q.2 from e2)
    exact .cons (.tup e (.cons (.int _) (.cons (.int _) .nil))) (dp_pairs h2)
def fMinP (ds : List D) (S : Sto) : Rs D := match ds with
  | [.ref n] => (match S[n]? with
    | some (.lst xs) => (match toPairs xs with
      | some (p :: ps) => .ok (prT (minP p ps)) S
      | _ => .bad)
    | _ => .bad)
  | _ => .bad
theorem pr_minP : PrimN (gX X) W (rMinP X.K) fMinP := by
  intro p S H xs vs Q hs rs q
  unfold fMinP at q
  split at q
  · rename_i n
    obtain ⟨v, r, rfl, ⟨a, ea, rfl⟩, h2⟩ := rs
    cases (show r = [] from h2)
    split at q
    · rename_i ds hd
      split at q
      · rename_i pp ps hp
        obtain ⟨x, ex, us, rfl, rr⟩ := hs.get n a _ ea hd
        rw [toPairs_eq hp] at rr
        refine ⟨a, us, pp, ps, rfl, .of ex, dp_pairs rr, fun w i hw hi => ?_⟩
        obtain ⟨d, hdd, rd⟩ := rr.get' hw
        rw [List.getElem?_map, hi] at hdd
        cases hdd
        exact post_ok q hs w rd
      · exact q.elim
    · exact q.elim
  · exact q.elim
/-- isinstance(e, T), T a built-in class -/
theorem me_isXB {e : Expr} {m : En → Sto → Rs D} {T : String} {y : Str} {sub : Str → Option Bool} {p p2 pos : Pos} (hg : Gl X "isinstance") (hm : X.mg "isinstance" = none) (he : ME X W e m) (hy : Gl X y) (hyg : X.mg y = none) (hv : bootBuiltins y = some (.type T))
    (hsub : ∀ c b, sub c = some b → ExcC X.K (He.ga X.K c) ∧ PySem.W.kitOne X.K (.ref (He.ga X.K c)) (.type T) = some b) (hn : y ≠ "__name__" := by decide) (hdb : (y == ("__debug__" : Str)) = false := by decide)
    (hs1 : starEach [e, .Name y p2] X.env = (false, eval e X.env) :: starEach [.Name y p2] X.env := by rfl) (hs2 : starEach [.Name y p2] X.env = (false, eval (.Name y p2) X.env) :: starEach [] X.env := by rfl) (hpl : (backTo pos (starEach [.Name y p2] X.env)).any (·.1) = false := by rfl) :
    ME X W (.Call (.Name "isinstance" p) [e, .Name y p2] [] pos) (m1 (fIsX sub) m) :=
  PE.imp (pe_callB call_isX hg hm PyProof.Rows.boot_isinstance (pa_cons he (pa_cons (pe_bltn (v := .ty T) hy hyg hv rfl hn hdb) pa_nil hs2) hs1) (by decide) (by decide) hs1 hpl) fun σ H Q q => by
    obtain ⟨pp, S, E, hs, he, q⟩ := q
    refine lE_step hs he (post_mono (fun d S1 p1 H1 x1 hs1 q1 v rv => ?_) (post_bind q))
    unfold fIsX at q1
    split at q1
    · rename_i n
      obtain ⟨a, ea, rfl⟩ := rv
      split at q1
      · rename_i c hc
        split at q1
        · rename_i b hb
          obtain ⟨xx, ex, d, rfl, hd⟩ := hs1.get n a _ ea hc
          have hd0 : d = none := by
            rcases hd with ⟨_, h⟩ | ⟨h0, _⟩
            · exact h
            · exact absurd rfl h0
          subst hd0
          obtain ⟨h1, h2⟩ := hsub c b hb
          exact ⟨a, He.ga X.K c, _, .type T, b, rfl, ex, h1, fun u r => r, h2, post_ok q1 hs1 _ rfl⟩
        · exact q1.elim
      · exact q1.elim
    · exact q1.elim
/-- facts of the classes, as one test of the fragment -/
def excB (K : PySem.W.Frag) (D : Addr) : Bool :=
  He.eqO (PySem.W.findIn K (.ref D) "__getattribute__") (some (some (.builtin "BaseException.__getattribute__"))) && (He.eqO (PySem.W.findIn K (.ref D) "__getattr__") (some none) && (decide (PySem.W.subIn K (.ref D) (.type "BaseException") = some true) && (PySem.W.hasDictIn K D && (He.eqO (PySem.W.findIn K (.ref D) "__class__") (some (some (.builtin "object.__class__"))) &&
  (He.eqO (PySem.W.specialIn K (.builtin "object.__class__") "__get__") (some (some (.builtin "getset_descriptor.__get__"))) && (decide (PySem.W.takesIn K (.builtin "object.__class__") = some true) && decide (PySem.W.mroIn K D (.type "object") = some true)))))))
theorem excB_ok {K : PySem.W.Frag} {D : Addr} (h : excB K D = true) : ExcC K D := by
  obtain ⟨h1, h⟩ := He.ba h
  obtain ⟨h2, h⟩ := He.ba h
  obtain ⟨h3, h⟩ := He.ba h
  obtain ⟨h4, h⟩ := He.ba h
  obtain ⟨h5, h⟩ := He.ba h
  obtain ⟨h6, h⟩ := He.ba h
  obtain ⟨h7, h8⟩ := He.ba h
  exact ⟨He.eqO_ok h1, He.eqO_ok h2, of_decide_eq_true h3, h4, He.eqO_ok h5, He.eqO_ok h6, of_decide_eq_true h7, of_decide_eq_true h8⟩
/-- c is an instance of y, or not -/
def isxB (K : PySem.W.Frag) (c : Str) (cv : Value) (b : Bool) : Bool := excB K (He.ga K c) && decide (PySem.W.kitOne K (.ref (He.ga K c)) cv = some b)
theorem isxB_ok {K : PySem.W.Frag} {c : Str} {cv : Value} {b : Bool} (h : isxB K c cv b = true) : ExcC K (He.ga K c) ∧ PySem.W.kitOne K (.ref (He.ga K c)) cv = some b := by
  obtain ⟨h1, h2⟩ := He.ba h
  exact ⟨excB_ok h1, of_decide_eq_true h2⟩
/-- of one class alone -/
def sub1 (c : Str) (b : Bool) : Str → Option Bool := fun x => if x = c then some b else none
theorem sub1_ok {K : PySem.W.Frag} {c : Str} {cv : Value} {b : Bool} (h : isxB K c cv b = true) : ∀ x b', sub1 c b x = some b' → ExcC K (He.ga K x) ∧ PySem.W.kitOne K (.ref (He.ga K x)) cv = some b' := fun x b' e => by
  unfold sub1 at e
  split at e
  · rename_i hx
    cases e
    rw [hx]
    exact isxB_ok h
  · cases e
end
end M

namespace M
open PySem L2
/-! ### a def that may raise, called where it does not -/
structure DefXK (P : Program) (w : World) (K : PySem.W.Frag) (mg : Str → Option Value) (base : Heap) (k : Nat) (x : Str) (st : Stmt) (ps : List Str) (mf : List D → Sto → Rs D) : Prop where
  ex : ∃ (f : Addr) (fd : FuncData), FnOk P w K mg base (L2.CX P w) k f fd ps (spX ⟨K, P, w⟩ ps.length mf) ∧ mg x = some (.ref f) ∧ PySem.W.keepIn K (.ref f) = true ∧ Binds K fd ps [] ∧ FunD K x x (defArgs st) (defBody st) (defScope st) [] [] f fd
section
variable {P : Program} {w : World} {K : PySem.W.Frag} {mg : Str → Option Value} {base : Heap}
theorem post_w0 {α : Type} {G : KX} {W : XW} {p : List Addr} {H : Hp} {r : Rs α} {k : α → Sto → List Addr → Hp → Prop} (h : post G W0 p H r k) : post G W p H r k := by
  cases r with
  | ok a S => exact h
  | exc c fs S => exact fun p' H' x hs => (h p' H' x hs).elim
  | bad => exact h
theorem fn_quiet {k n : Nat} {f : Addr} {fd : FuncData} {ps : List Str} {mf : List D → Sto → Rs D} (F : FnOk P w K mg base (L2.CX P w) k f fd ps (spX ⟨K, P, w⟩ n mf)) : FnOk P w K mg base CX0 k f fd ps (spM ⟨K, P, w⟩ n mf) where
  len := fun vs H Q E h => by
    obtain ⟨h1, p, S, ds, hs, rd, q⟩ := h
    exact F.len vs H Q E0 ⟨h1, p, S, ds, hs, rd, post_w0 q⟩
  run := fun A outer s H args us vs Q E hr e0 hb r h => by
    obtain ⟨h1, p, S, ds, hs, rd, q⟩ := h
    refine codeAny_mono (F.run A outer s H args us vs Q E0 hr e0 hb r ⟨h1, p, S, ds, hs, rd, post_w0 q⟩) fun r s' z => ?_
    cases r with
    | error e =>
      obtain ⟨_, _, _, _, _, _, _, _, _, _, _, _, hE⟩ := (show L2.CX P w outer H s E0 e s' from z)
      exact hE.elim
    | ok fl =>
      cases fl with
      | ret u => exact z
      | next => exact False.elim z
      | brk => exact False.elim z
      | cont => exact False.elim z
theorem DefXK.x {k : Nat} {x : Str} {st : Stmt} {ps : List Str} {mf : List D → Sto → Rs D} (h : DefXK P w K mg base k x st ps mf) : DefX P w K mg base k x ps.length mf := by
  obtain ⟨f, fd, h1, h2, h3, h4, _⟩ := h.ex
  exact ⟨f, fd, ps, h1, h2, h3, h4⟩
theorem DefXK.k {k : Nat} {x : Str} {st : Stmt} {ps : List Str} {mf : List D → Sto → Rs D} (h : DefXK P w K mg base k x st ps mf) : DefK P w K mg base k x st ps mf := by
  obtain ⟨f, fd, h1, h2, h3, h4, h5⟩ := h.ex
  exact ⟨f, fd, fn_quiet h1, h2, h3, h4, h5⟩
theorem defAtXK {x : Str} {st : Stmt} {N ps : List Str} {k : Nat} {mb : En → Sto → Rs Fl} (F : ∃ fd, FunD K x x (defArgs st) (defBody st) (defScope st) [] [] (He.ga K x) fd) (hm : mg x = some (.ref (He.ga K x))) (S : FnScope N ps (defScope st))
    (hbd : ∀ (kV doc pm : Value) (an : Option Addr) (cdv ct : Value) (us : List Value), us.length = ps.length → bindArgs (PySem.W.fnOf x x (defArgs st) (defBody st) (defScope st) .none kV doc pm an cdv ct) ⟨us, []⟩ = pure (ps.zip us))
    (hb : ∀ (A : Around) (outer : List Env) (s : Shared) (H : Hp) (E : XK), Room k (A.deeper (PyProof.Rows.envOfC x (defScope st) s.heap.objs.size (He.ga K x) (.ref (He.codeOf K (x, none))))) → MSs (cxOf (L2.CX P w) P w K mg base N x (defScope st) (He.ga K x) (.ref (He.codeOf K (x, none))) A outer s H E) (wE ⟨K, P, w⟩ E) (defBody st) mb) :
    DefXK P w K mg base (k + 1) x st ps (mDef N.length mb) := by
  obtain ⟨fd, F⟩ := F
  have hbn := F.bindsN hbd
  have hkp := F.kp
  refine ⟨_, fd, ?_, hm, hkp, hbn, F⟩
  obtain ⟨oc, od, dV, kV, doc, pm, an, cdv, ct, osl, rfl, lk, hcd, _, _⟩ := F.ex
  obtain ⟨c, rfl⟩ := He.codeIn_ref hcd
  have e : He.codeOf K (x, none) = c := He.codeOf_eq (p := (x, none)) lk rfl
  rw [e] at hb
  refine fn_of lk hcd S (fun vs H Q E h => h.1) (fun A outer s H vs Q E hr h => ?_)
  obtain ⟨hl, p, S', ds, hs, rd, q⟩ := h
  refine ⟨_, hb A outer s H E hr, p, S', startE N.length ds, hs, RE.start N rd, post_mono (fun fl S1 p1 H1 x1 hs1 q1 => ?_) (post_bindB q)⟩
  cases fl with
  | nx E1 => exact fun σ' _ => gc_read (d := .non) (v := .non) hs x1 hs1 rfl q1
  | rt d => exact fun v rv => gc_read hs x1 hs1 rv q1
  | bk E1 => exact q1.elim
  | ct E1 => exact q1.elim
end
end M

namespace M
open PySem L2 PySem.Spec
/-! ### facts of more than one class -/
def okL (cs : List Str) (c : Str) : Bool := decide (c ∈ cs)
def okB (K : PySem.W.Frag) (cs : List Str) (le : Str) : Bool := cs.all fun c => decide (PySem.W.exmOne K (.ref (He.ga K c)) (.ref (He.ga K le)) = some true)
theorem okB_ok {K : PySem.W.Frag} {cs : List Str} {le : Str} (h : okB K cs le = true) : ∀ c, okL cs c = true → PySem.W.exmOne K (.ref (He.ga K c)) (.ref (He.ga K le)) = some true := fun c hc =>
  of_decide_eq_true (List.all_eq_true.mp h c (of_decide_eq_true hc))
def subL : List (Str × Bool) → Str → Option Bool
  | [], _ => none
  | (x, b) :: r, c => if c = x then some b else subL r c
def isxL (K : PySem.W.Frag) (l : List (Str × Bool)) (cv : Value) : Bool := l.all fun x => isxB K x.1 cv x.2
theorem isxL_ok {K : PySem.W.Frag} {l : List (Str × Bool)} {cv : Value} (h : isxL K l cv = true) : ∀ c b, subL l c = some b → ExcC K (He.ga K c) ∧ PySem.W.kitOne K (.ref (He.ga K c)) cv = some b := by
  induction l with
  | nil => intro c b e; cases e
  | cons x r ih =>
    intro c b e
    have h' := List.all_eq_true.mp h
    unfold subL at e
    split at e
    · rename_i hc
      cases e
      rw [hc]
      exact isxB_ok (h' x List.mem_cons_self)
    · exact ih (List.all_eq_true.mpr fun y hy => h' y (List.mem_cons_of_mem _ hy)) c b e
end M

namespace M
open PySem L2
/-! ### stepping -/
theorem seq_ok {a b : En → Sto → Rs Fl} {E E1 : En} {S S1 : Sto} {r : Rs Fl} (h : a E S = .ok (.nx E1) S1) (h2 : b E1 S1 = r) : sSeq a b E S = r := by
  unfold sSeq; rw [h]; exact h2
theorem seq_rt {a b : En → Sto → Rs Fl} {E : En} {S S1 : Sto} {d : D} (h : a E S = .ok (.rt d) S1) : sSeq a b E S = .ok (.rt d) S1 := by
  unfold sSeq; rw [h]; rfl
theorem if_yes {t : En → Sto → Rs Bool} {a b : En → Sto → Rs Fl} {E : En} {S S1 : Sto} {r : Rs Fl} (h : t E S = .ok true S1) (h2 : a E S1 = r) : sIf t a b E S = r := by
  unfold sIf; rw [h]; exact h2
theorem if_no {t : En → Sto → Rs Bool} {a b : En → Sto → Rs Fl} {E : En} {S S1 : Sto} {r : Rs Fl} (h : t E S = .ok false S1) (h2 : b E S1 = r) : sIf t a b E S = r := by
  unfold sIf; rw [h]; exact h2
theorem asg_ok {m : En → Sto → Rs D} {g : D → En → Sto → Rs En} {E E1 : En} {S S1 S2 : Sto} {d : D} (h : m E S = .ok d S1) (h2 : g d E S1 = .ok E1 S2) : sAsg m g E S = .ok (.nx E1) S2 := by
  unfold sAsg; rw [h, bind_ok, h2]; rfl
theorem ret_ok {m : En → Sto → Rs D} {E : En} {S S1 : Sto} {d : D} (h : m E S = .ok d S1) : sRet m E S = .ok (.rt d) S1 := by
  unfold sRet; rw [h]; rfl
theorem call_ok {n : Nat} {f : List D → Sto → Rs D} {t : En → Sto → Rs (List D)} {E : En} {S S1 S2 : Sto} {ds : List D} {d : D} (ht : t E S = .ok ds S1) (hl : ds.length = n) (h : f ds S1 = .ok d S2) : mN (mCl n f) t E S = .ok d S2 := by
  unfold mN mCl; rw [ht, bind_ok, if_pos hl, h]; rfl
theorem m2_ok {f : D → D → Sto → Rs D} {a b : En → Sto → Rs D} {E : En} {S S1 S2 : Sto} {x y : D} {r : Rs D} (ha : a E S = .ok x S1) (hb : b E S1 = .ok y S2) (h : f x y S2 = r) : m2 f a b E S = r := by
  unfold m2; rw [ha, bind_ok, hb, bind_ok, h]
theorem tB_ok {m : En → Sto → Rs D} {E : En} {S S1 : Sto} {b : Bool} (h : m E S = .ok (.bl b) S1) : tB m E S = .ok b S1 := by
  unfold tB; rw [h]; rfl
theorem def_rt {n : Nat} {mb : En → Sto → Rs Fl} {ds : List D} {S S1 : Sto} {d : D} {r : Rs D} (h : mb (startE n ds) S = .ok (.rt d) S1) (h2 : gc S.length d S1 = r) : mDef n mb ds S = r := by
  unfold mDef; rw [h]; exact h2
/-! ### what is dropped -/
theorem gc_same {n : Nat} {d : D} {S : Sto} (h : S.length = n) : gc n d S = .ok d S := by
  unfold gc; rw [← h, List.take_length]; split <;> rfl
theorem gc_cut {d : D} {S T : Sto} (hd : lowD S.length d = true) (hl : lowS S.length S = true) : gc S.length d (S ++ T) = .ok d S := by
  unfold gc; rw [List.take_left, hd, hl]; rfl
mutual
theorem lowD_mono {n m : Nat} (h : n ≤ m) : ∀ {d : D}, lowD n d = true → lowD m d = true
  | .non, _ => rfl
  | .bl _, _ => rfl
  | .int _, _ => rfl
  | .str _, _ => rfl
  | .raw _, _ => rfl
  | .rl _, _ => rfl
  | .ref k, q => by
    have q : k < n := of_decide_eq_true q
    exact decide_eq_true (Nat.lt_of_lt_of_le q h)
  | .tup ds, q => lowDs_mono h (ds := ds) q
  | .ptp ds, q => lowDs_mono h (ds := ds) q
theorem lowDs_mono {n m : Nat} (h : n ≤ m) : ∀ {ds : List D}, lowDs n ds = true → lowDs m ds = true
  | [], _ => rfl
  | d :: ds, q => by
    have q : (lowD n d && lowDs n ds) = true := q
    rw [Bool.and_eq_true] at q
    show (lowD m d && lowDs m ds) = true
    rw [lowD_mono h q.1, lowDs_mono h q.2]
    rfl
end
theorem lowO_mono {n m : Nat} (h : n ≤ m) {o : O} (q : lowO n o = true) : lowO m o = true := by
  cases o with
  | lst ds => exact lowDs_mono h q
  | dk kvs => exact lowDs_mono h q
  | fd kvs => exact lowDs_mono h q
  | dn kvs => exact lowDs_mono h q
  | fn kvs => exact lowDs_mono h q
  | ex c fs => exact lowDs_mono h q
  | tb P x => rfl
theorem lowS_mono {n m : Nat} (h : n ≤ m) {S : Sto} (q : lowS n S = true) : lowS m S = true :=
  List.all_eq_true.mpr fun o ho => lowO_mono h (List.all_eq_true.mp q o ho)
/-- a store all of whose references are its own -/
def Low (S : Sto) : Prop := lowS S.length S = true
theorem Low.snoc {S : Sto} {o : O} (h : Low S) (ho : lowO (S.length + 1) o = true) : Low (S ++ [o]) := by
  unfold Low
  rw [List.length_append]
  refine List.all_eq_true.mpr fun u hu => ?_
  rcases List.mem_append.mp hu with hu | hu
  · exact lowO_mono (Nat.le_add_right ..) (List.all_eq_true.mp h u hu)
  · rw [List.mem_singleton.mp hu]; exact ho
theorem Low.set {S : Sto} {o : O} {i : Nat} (h : Low S) (ho : lowO S.length o = true) : Low (S.set i o) := by
  unfold Low
  rw [List.length_set]
  refine List.all_eq_true.mpr fun u hu => ?_
  rcases List.mem_or_eq_of_mem_set hu with hu | rfl
  · exact List.all_eq_true.mp h u hu
  · exact ho
theorem lowDs_ints {n : Nat} : ∀ {ns : List Int}, lowDs n (ns.map .int) = true
  | [] => rfl
  | _ :: ns => by rw [List.map_cons]; show (true && lowDs n (ns.map .int)) = true; rw [lowDs_ints]; rfl
theorem lowDs_all {n : Nat} : ∀ {ds : List D}, (∀ d ∈ ds, lowD n d = true) → lowDs n ds = true
  | [], _ => rfl
  | d :: ds, h => by
    show (lowD n d && lowDs n ds) = true
    rw [h d (List.mem_cons_self ..), lowDs_all fun x hx => h x (List.mem_cons_of_mem _ hx)]; rfl
@[simp] theorem get_end (S : Sto) (o : O) : (S ++ [o])[S.length]? = some o := by simp
@[simp] theorem set_end (S : Sto) (o u : O) : (S ++ [o]).set S.length u = S ++ [u] := by simp
theorem get_old {S : Sto} {o : O} {i : Nat} {u : O} (h : S[i]? = some u) : (S ++ [o])[i]? = some u := by
  have := (List.getElem?_eq_some_iff.mp h).1
  rw [List.getElem?_append_left this]; exact h
theorem set_self {S : Sto} {i : Nat} {o u : O} (h : S[i]? = some o) : (S.set i u).set i o = S := by
  rw [List.set_set]
  obtain ⟨h1, h2⟩ := List.getElem?_eq_some_iff.mp h
  rw [← h2, List.set_getElem_self]
/-! ### comprehensions that change nothing -/
theorem compL_pure {g : Sto → Prop} {body : D → Sto → Rs (Option D)} {S : Sto} (f : D → Option D) (hg : g S) : ∀ {items acc : List D}, (∀ d ∈ items, body d S = .ok (f d) S) → acc.length + items.length ≤ sizeLine → compL g body items acc S = .ok (acc ++ items.filterMap f) S
  | [], acc, _, _ => by rw [compL, if_pos hg]; simp
  | d :: r, acc, h, hl => by
    rw [compL, if_pos hg, h d (List.mem_cons_self ..), noX_ok, bind_ok]
    simp only [List.length_cons] at hl
    have h' : ∀ x ∈ r, body x S = .ok (f x) S := fun x hx => h x (List.mem_cons_of_mem _ hx)
    cases hf : f d with
    | none =>
      show compL g body r acc S = _
      rw [compL_pure f hg h' (by omega), List.filterMap_cons, hf]
    | some y =>
      show (if acc.length < sizeLine then compL g body r (acc ++ [y]) S else .bad) = _
      rw [if_pos (by omega), compL_pure f hg h' (by simp; omega), List.filterMap_cons, hf]
      simp
theorem mComp_pure {mi : En → Sto → Rs AI} {vs : List Nat} {g : D → En → Sto → Rs En} {t : En → Sto → Rs Bool} {m : En → Sto → Rs D} {E : En} {S S1 : Sto} {items : List D} {gd : Sto → Prop} (f : D → Option D) (hmi : mi E S = .ok ⟨items, gd, none⟩ S1) (hg : gd S1)
    (hb : ∀ d ∈ items, bodyL vs g t m E d S1 = .ok (f d) S1) (hl : items.length ≤ sizeLine) : mComp mi vs g t m E S = .ok (items.filterMap f) S1 := by
  unfold mComp
  rw [hmi, bind_ok]
  show (compL gd (bodyL vs g t m E) items [] S1).bind _ = _
  rw [compL_pure f hg hb (by simpa using hl)]
  rfl
theorem mComp_lock {mi : En → Sto → Rs AI} {vs : List Nat} {g : D → En → Sto → Rs En} {t : En → Sto → Rs Bool} {m : En → Sto → Rs D} {E : En} {S S1 : Sto} {items : List D} {n : Nat} {kvs : List (Key × D)} (f : D → Option D) (hmi : mi E S = .ok ⟨items, fun S => S[n]? = some (.fd kvs), some n⟩ S1) (hS : S1[n]? = some (.dk kvs))
    (hb : ∀ d ∈ items, bodyL vs g t m E d (S1.set n (.fd kvs)) = .ok (f d) (S1.set n (.fd kvs))) (hl : items.length ≤ sizeLine) : mComp mi vs g t m E S = .ok (items.filterMap f) S1 := by
  have hn := (List.getElem?_eq_some_iff.mp hS).1
  have hS' : (S1.set n (.fd kvs))[n]? = some (.fd kvs) := by simp [hn]
  unfold mComp
  rw [hmi, bind_ok]
  have e : lockS (some n) S1 = S1.set n (.fd kvs) := by unfold lockS; simp only [hS]
  show (compL (fun S => S[n]? = some (.fd kvs)) (bodyL vs g t m E) items [] (lockS (some n) S1)).bind _ = _
  rw [e, compL_pure f hS' hb (by simpa using hl), bind_ok]
  unfold unl
  simp only [hS']
  rw [set_self hS]
  simp
theorem compD_pure {g : Sto → Prop} {body : D → Sto → Rs (Option (Key × D))} {S : Sto} (f : D → Key × D) (hg : g S) : ∀ {items : List D} {acc : List (Key × D)}, (∀ d ∈ items, body d S = .ok (some (f d)) S) → (∀ kvs : List (Key × D), ∀ k d, (setK kvs k d).length ≤ kvs.length + 1) → acc.length + items.length ≤ sizeLine →
    compD g body items acc S = .ok (items.foldl (fun acc d => setK acc (f d).1 (f d).2) acc) S
  | [], acc, _, _, _ => by rw [compD, if_pos hg]; rfl
  | d :: r, acc, h, hk, hl => by
    rw [compD, if_pos hg, h d (List.mem_cons_self ..), noX_ok, bind_ok]
    simp only [List.length_cons] at hl
    show (if acc.length < sizeLine then compD g body r (setK acc (f d).1 (f d).2) S else .bad) = _
    rw [if_pos (by omega), compD_pure f hg (fun x hx => h x (List.mem_cons_of_mem _ hx)) hk (by have := hk acc (f d).1 (f d).2; omega)]
    rfl
theorem setK_len (kvs : List (Key × D)) (k : Key) (d : D) : (setK kvs k d).length ≤ kvs.length + 1 := by
  unfold setK; split <;> simp
theorem mCompD_lock {mi : En → Sto → Rs AI} {vs : List Nat} {g : D → En → Sto → Rs En} {t : En → Sto → Rs Bool} {mk m : En → Sto → Rs D} {E : En} {S S1 : Sto} {items : List D} {n : Nat} {kvs : List (Key × D)} (f : D → Key × D) (hmi : mi E S = .ok ⟨items, fun S => S[n]? = some (.fd kvs), some n⟩ S1) (hS : S1[n]? = some (.dk kvs))
    (hb : ∀ d ∈ items, bodyD vs g t mk m E d (S1.set n (.fd kvs)) = .ok (some (f d)) (S1.set n (.fd kvs))) (hl : items.length ≤ sizeLine) : mCompD mi vs g t mk m E S = .ok (items.foldl (fun acc d => setK acc (f d).1 (f d).2) []) S1 := by
  have hn := (List.getElem?_eq_some_iff.mp hS).1
  have hS' : (S1.set n (.fd kvs))[n]? = some (.fd kvs) := by simp [hn]
  unfold mCompD
  rw [hmi, bind_ok]
  have e : lockS (some n) S1 = S1.set n (.fd kvs) := by unfold lockS; simp only [hS]
  show (compD (fun S => S[n]? = some (.fd kvs)) (bodyD vs g t mk m E) items [] (lockS (some n) S1)).bind _ = _
  rw [e, compD_pure f hS' hb setK_len (by simpa using hl), bind_ok]
  unfold unl
  simp only [hS']
  rw [set_self hS]
/-- a dict filled by new keys only -/
theorem foldl_setK {f : D → Key × D} : ∀ {items : List D} {acc : List (Key × D)}, (acc.map (·.1) ++ items.map fun d => (f d).1).Nodup → items.foldl (fun acc d => setK acc (f d).1 (f d).2) acc = acc ++ items.map f
  | [], acc, _ => by simp
  | d :: r, acc, h => by
    have hn : ¬ (acc.any fun kv => decide (kv.1 = (f d).1)) = true := fun z => by
      obtain ⟨kv, hk, e⟩ := List.any_eq_true.mp z
      have e : kv.1 = (f d).1 := of_decide_eq_true e
      rw [List.map_cons] at h
      exact (List.nodup_append.mp h).2.2 _ (List.mem_map.mpr ⟨kv, hk, rfl⟩) _ (List.mem_cons_self ..) e
    have e : setK acc (f d).1 (f d).2 = acc ++ [f d] := by unfold setK; rw [if_neg hn]
    rw [List.foldl_cons, e, foldl_setK]
    · simp
    · simpa using h
/-! ### loops -/
theorem loop_ind {g : Sto → Prop} {body : D → En → Sto → Rs Fl} (I : Nat → En → Sto → Prop) {items : List D} (hg : ∀ i E S, I i E S → g S)
    (step : ∀ i d E S, items[i]? = some d → I i E S → ∃ E1 S1, body d E S = .ok (.nx E1) S1 ∧ I (i + 1) E1 S1) :
    ∀ (n i : Nat) (E : En) (S : Sto), n = items.length - i → i ≤ items.length → I i E S → ∃ E1 S1, loop g body (items.drop i) E S = .ok (.nx E1) S1 ∧ I items.length E1 S1
  | 0, i, E, S, hn, hi, h => by
    have e : i = items.length := by omega
    subst e
    rw [List.drop_length, loop, if_pos (hg _ _ _ h)]
    exact ⟨E, S, rfl, h⟩
  | n + 1, i, E, S, hn, hi, h => by
    have hlt : i < items.length := by omega
    rw [List.drop_eq_getElem_cons hlt, loop, if_pos (hg _ _ _ h)]
    obtain ⟨E1, S1, e1, h1⟩ := step i items[i] E S (by simp [hlt]) h
    rw [e1, bind_ok]
    exact loop_ind I hg step n (i + 1) E1 S1 (by omega) (by omega) h1
theorem for_ind {mi : En → Sto → Rs AI} {g : D → En → Sto → Rs En} {mb : En → Sto → Rs Fl} {E : En} {S S1 : Sto} {items : List D} {gd : Sto → Prop} (I : Nat → En → Sto → Prop) (hmi : mi E S = .ok ⟨items, gd, none⟩ S1) (h0 : I 0 E S1) (hg : ∀ i E S, I i E S → gd S)
    (step : ∀ i d E S, items[i]? = some d → I i E S → ∃ E1 S1, ((g d E S).bind mb) = .ok (.nx E1) S1 ∧ I (i + 1) E1 S1) : ∃ E1 S2, sFor mi g mb E S = .ok (.nx E1) S2 ∧ I items.length E1 S2 := by
  obtain ⟨E1, S2, e, h⟩ := loop_ind I hg step items.length 0 E S1 (by omega) (by omega) h0
  refine ⟨E1, S2, ?_, h⟩
  unfold sFor
  rw [hmi, bind_ok]
  rw [List.drop_zero] at e
  show (loop gd _ items E S1).bind _ = _
  rw [e]
  rfl
/-! ### primitives at data of known sorts -/
section
variable {S : Sto} {n m : Nat} {i j : Int} {a b : Bool} {x y : Str} {d e : D} {ds es : List D} {kvs : List (Key × D)} {k : Key}
@[simp] theorem ev_C {E : En} : mC d E S = .ok d S := rfl
@[simp] theorem ix_tup : opIx (.tup ds) (.int i) S = match atI ds i with | some d => .ok d S | none => .bad := rfl
@[simp] theorem ix_rl {ns : List Int} : opIx (.rl ns) (.int i) S = match atI ns i with | some d => .ok (.int d) S | none => .bad := rfl
theorem ix_dk (h : S[n]? = some (.dk kvs)) (hk : toKey d = some k) (hg : getK kvs k = some e) : opIx (.ref n) d S = .ok e S := by simp [opIx, h, hk, hg]
theorem ix_fd (h : S[n]? = some (.fd kvs)) (hk : toKey d = some k) (hg : getK kvs k = some e) : opIx (.ref n) d S = .ok e S := by simp [opIx, h, hk, hg]
theorem ix_lst (h : S[n]? = some (.lst ds)) (hg : atI ds i = some e) : opIx (.ref n) (.int i) S = .ok e S := by simp [opIx, h, hg]
@[simp] theorem eq_int : opEq (.int i) (.int j) S = .ok (.bl (decide (i = j))) S := rfl
@[simp] theorem eq_str : opEq (.str x) (.str y) S = .ok (.bl (decide (x = y))) S := rfl
@[simp] theorem eq_bl : opEq (.bl a) (.bl b) S = .ok (.bl (decide (a = b))) S := rfl
@[simp] theorem ne_int : opNe (.int i) (.int j) S = .ok (.bl (!decide (i = j))) S := rfl
@[simp] theorem ne_str : opNe (.str x) (.str y) S = .ok (.bl (!decide (x = y))) S := rfl
@[simp] theorem add_int : opAdd (.int i) (.int j) S = .ok (.int (i + j)) S := rfl
@[simp] theorem add_tup : opAdd (.tup ds) (.tup es) S = if ds.length + es.length ≤ sizeLine then .ok (.tup (ds ++ es)) S else .bad := rfl
@[simp] theorem opI_int {f : Int → Int → Int} : opI f (.int i) (.int j) S = .ok (.int (f i j)) S := rfl
@[simp] theorem sub_int : opSub (.int i) (.int j) S = .ok (.int (i - j)) S := rfl
@[simp] theorem mul_int : opMul (.int i) (.int j) S = if (-(2 ^ 64) < i ∧ i < 2 ^ 64) ∨ (-(2 ^ 64) < j ∧ j < 2 ^ 64) then .ok (.int (i * j)) S else .bad := rfl
@[simp] theorem fdiv_int : opFdiv (.int i) (.int j) S = if 0 < j ∧ j < 1073741824 then .ok (.int (i / j)) S else .bad := rfl
@[simp] theorem mod_int : opMod (.int i) (.int j) S = if 0 < j then .ok (.int (i % j)) S else .bad := rfl
@[simp] theorem pow_int : opPow (.int i) (.int j) S = if 0 ≤ j ∧ j ≤ 1000000 ∧ i.natAbs < 2 ^ 64 then .ok (.int (i ^ j.toNat)) S else .bad := rfl
@[simp] theorem lt_int : opLt (.int i) (.int j) S = .ok (.bl (decide (i < j))) S := rfl
@[simp] theorem le_int : opLe (.int i) (.int j) S = .ok (.bl (decide (i ≤ j))) S := rfl
@[simp] theorem gt_int : opGt (.int i) (.int j) S = .ok (.bl (decide (j < i))) S := rfl
@[simp] theorem ge_int : opGe (.int i) (.int j) S = .ok (.bl (decide (j ≤ i))) S := rfl
@[simp] theorem asB_bl : asB (.bl a) S = .ok a S := rfl
@[simp] theorem truth_bl : truth (.bl a) S = .ok a S := rfl
@[simp] theorem truth_int : truth (.int i) S = .ok (i != 0) S := rfl
@[simp] theorem truth_rl {ns : List Int} : truth (.rl ns) S = .ok (!ns.isEmpty) S := rfl
@[simp] theorem len_tup : fLen [.tup ds] S = .ok (.int ds.length) S := rfl
@[simp] theorem len_rl {ns : List Int} : fLen [.rl ns] S = .ok (.int ns.length) S := rfl
theorem len_lst (h : S[n]? = some (.lst ds)) : fLen [.ref n] S = .ok (.int ds.length) S := by simp [fLen, h]
theorem len_dk (h : S[n]? = some (.dk kvs)) : fLen [.ref n] S = .ok (.int kvs.length) S := by simp [fLen, h]
@[simp] theorem int_bl : fInt [.bl a] S = .ok (.int (if a then 1 else 0)) S := rfl
@[simp] theorem int_int : fInt [.int i] S = .ok (.int i) S := rfl
@[simp] theorem sum_ints {ns : List Int} : fSum (ns.map .int) S = .ok (.int ns.sum) S := by unfold fSum; rw [toInts_map]
@[simp] theorem key_int : toKey (.int i) = some (.inl i) := rfl
@[simp] theorem key_str : toKey (.str x) = some (.inr x) := rfl
theorem set_dk (h : S[n]? = some (.dk kvs)) (hk : toKey d = some k) (hl : kvs.length < sizeLine) : fSet (.ref n) d e S = .ok () (S.set n (.dk (setK kvs k e))) := by simp [fSet, h, hk, hl]
theorem notin_dk (h : S[n]? = some (.dk kvs)) (hk : toKey d = some k) : opNotIn d (.ref n) S = .ok (.bl (!(getK kvs k).isSome)) S := by simp [opNotIn, inD, h, hk]
theorem in_dk (h : S[n]? = some (.dk kvs)) (hk : toKey d = some k) : opIn d (.ref n) S = .ok (.bl (getK kvs k).isSome) S := by simp [opIn, inD, h, hk]
theorem atI_nat {α : Type} {xs : List α} {i : Nat} (h : i < xs.length) : atI xs (i : Int) = xs[i]? := by
  unfold atI ixN
  rw [if_pos (by omega), if_pos (by omega)]
  simp
end
theorem n1_ok {f : List D → Sto → Rs D} {a : En → Sto → Rs D} {E : En} {S S1 : Sto} {x : D} {r : Rs D} (h : a E S = .ok x S1) (h2 : f [x] S1 = r) : mN f (aCons a aNil) E S = r := by
  unfold mN aCons; rw [h, bind_ok]; exact h2
theorem cons_ok {a : En → Sto → Rs D} {t : En → Sto → Rs (List D)} {E : En} {S S1 S2 : Sto} {x : D} {xs : List D} (h : a E S = .ok x S1) (h2 : t E S1 = .ok xs S2) : aCons a t E S = .ok (x :: xs) S2 := by
  unfold aCons; rw [h, bind_ok, h2]; rfl
theorem aug_ok {i : Nat} {m : En → Sto → Rs D} {f : D → D → Sto → Rs D} {E : En} {S S1 S2 : Sto} {x y z : D} (h1 : mV i E S = .ok x S) (h2 : m E S = .ok y S1) (h3 : f x y S1 = .ok z S2) : sAug i m f E S = .ok (.nx (E.set i (some z))) S2 := by
  unfold sAug; rw [h1, bind_ok, h2, bind_ok, h3]; rfl
theorem gS_ok {f : D → D → D → Sto → Rs Unit} {mo mi : En → Sto → Rs D} {E : En} {S S1 S2 S3 : Sto} {o i d : D} (h1 : mo E S = .ok o S1) (h2 : mi E S1 = .ok i S2) (h3 : f o i d S2 = .ok () S3) : gS f mo mi d E S = .ok E S3 := by
  unfold gS; rw [h1, bind_ok, h2, bind_ok, h3]; rfl
/-! ### comprehensions that draw -/
theorem compL_ind {g : Sto → Prop} {body : D → Sto → Rs (Option D)} (I : Nat → List D → Sto → Prop) {items : List D} (hg : ∀ i acc S, I i acc S → g S ∧ acc.length ≤ i)
    (step : ∀ i d acc S, items[i]? = some d → I i acc S → ∃ o S1, body d S = .ok o S1 ∧ I (i + 1) (acc ++ o.toList) S1) (hl : items.length ≤ sizeLine) :
    ∀ (n i : Nat) (acc : List D) (S : Sto), n = items.length - i → i ≤ items.length → I i acc S → ∃ ds S1, compL g body (items.drop i) acc S = .ok ds S1 ∧ I items.length ds S1
  | 0, i, acc, S, hn, hi, h => by
    have e : i = items.length := by omega
    subst e
    rw [List.drop_length, compL, if_pos (hg _ _ _ h).1]
    exact ⟨acc, S, rfl, h⟩
  | n + 1, i, acc, S, hn, hi, h => by
    have hlt : i < items.length := by omega
    rw [List.drop_eq_getElem_cons hlt, compL, if_pos (hg _ _ _ h).1]
    obtain ⟨o, S1, e1, h1⟩ := step i items[i] acc S (by simp [hlt]) h
    rw [e1, noX_ok, bind_ok]
    have hle := (hg _ _ _ h).2
    cases o with
    | none =>
      have h1' : I (i + 1) acc S1 := by simpa using h1
      exact compL_ind I hg step hl n (i + 1) acc S1 (by omega) (by omega) h1'
    | some y =>
      show ∃ ds S2, (if acc.length < sizeLine then compL g body (items.drop (i + 1)) (acc ++ [y]) S1 else .bad) = .ok ds S2 ∧ _
      rw [if_pos (by omega)]
      exact compL_ind I hg step hl n (i + 1) (acc ++ [y]) S1 (by omega) (by omega) h1
theorem mComp_ind {mi : En → Sto → Rs AI} {vs : List Nat} {g : D → En → Sto → Rs En} {t : En → Sto → Rs Bool} {m : En → Sto → Rs D} {E : En} {S S1 : Sto} {items : List D} {gd : Sto → Prop} (I : Nat → List D → Sto → Prop) (hmi : mi E S = .ok ⟨items, gd, none⟩ S1) (h0 : I 0 [] S1) (hg : ∀ i acc S, I i acc S → gd S ∧ acc.length ≤ i)
    (step : ∀ i d acc S, items[i]? = some d → I i acc S → ∃ o S2, bodyL vs g t m E d S = .ok o S2 ∧ I (i + 1) (acc ++ o.toList) S2) (hl : items.length ≤ sizeLine) : ∃ ds S2, mComp mi vs g t m E S = .ok ds S2 ∧ I items.length ds S2 := by
  obtain ⟨ds, S2, e, h⟩ := compL_ind I hg step hl items.length 0 [] S1 (by omega) (by omega) h0
  refine ⟨ds, S2, ?_, h⟩
  unfold mComp
  rw [hmi, bind_ok]
  rw [List.drop_zero] at e
  show (compL gd _ items [] S1).bind _ = _
  rw [e]
  rfl
theorem body_yes {vs : List Nat} {g : D → En → Sto → Rs En} {m : En → Sto → Rs D} {E E1 : En} {d y : D} {S S1 : Sto} (h1 : g d (wipeE vs E) S = .ok E1 S) (h2 : m E1 S = .ok y S1) : bodyL vs g tYesM m E d S = .ok (some y) S1 := by
  have : tYesM E1 S = .ok true S := rfl
  unfold bodyL
  rw [h1, bind_ok, this, bind_ok, if_pos rfl, h2]; rfl
theorem range_get {n i : Nat} {d : D} (h : (rangeD 0 (n : Int))[i]? = some d) : i < n ∧ d = .int (i : Nat) := by
  unfold rangeD at h
  rw [List.getElem?_map] at h
  cases hq : (List.range ((n : Int) - 0).toNat)[i]? with
  | none => rw [hq] at h; cases h
  | some k =>
    rw [hq] at h
    obtain ⟨h1, h2⟩ := List.getElem?_eq_some_iff.mp hq
    rw [List.length_range] at h1
    rw [List.getElem_range] at h2
    subst h2
    exact ⟨by omega, by rw [← Option.some.inj h]; show D.int (0 + (i : Int)) = _; rw [Int.zero_add]⟩
theorem range_len {n : Nat} : (rangeD 0 (n : Int)).length = n := by simp [rangeD]
theorem r1_ok {n : Nat} {S : Sto} (h : n ≤ 1000000) : aiR1 [.int (n : Int)] S = .ok ⟨rangeD 0 (n : Int), fun _ => True, none⟩ S := by
  simp only [aiR1]; rw [if_pos (by omega)]
theorem ad_ok {m : En → Sto → Rs (List D)} {E : En} {S S1 : Sto} {ds : List D} (h : m E S = .ok ds S1) : mAd m E S = .ok (.ref S1.length) (S1 ++ [.lst ds]) := by
  unfold mAd; rw [h]; rfl
theorem lst_ok {t : En → Sto → Rs (List D)} {E : En} {S S1 : Sto} {ds : List D} (h : t E S = .ok ds S1) (hl : ds.length ≤ 1000000) : mLst t E S = .ok (.ref S1.length) (S1 ++ [.lst ds]) := by
  have : (1000000 : Nat) ≤ sizeLine := by decide
  unfold mLst; rw [h, bind_ok, if_pos (by omega)]
theorem tup_ok {t : En → Sto → Rs (List D)} {E : En} {S S1 : Sto} {ds : List D} (h : t E S = .ok ds S1) (hl : ds.length ≤ 1000000) : mTup t E S = .ok (.tup ds) S1 := by
  have : (1000000 : Nat) ≤ sizeLine := by decide
  unfold mTup; rw [h, bind_ok, if_pos (by omega)]
theorem tl_ok {f : List D → Sto → Rs D} {m : En → Sto → Rs (List D)} {E : En} {S S1 : Sto} {ds : List D} {r : Rs D} (h : m E S = .ok ds S1) (h2 : f ds S1 = r) : mTL f m E S = r := by
  unfold mTL; rw [h]; exact h2
/-! ### == of lists, tuples of ints -/
theorem eqvAll_ints : ∀ {xs ys : List Int}, PyData.eqvAll (xs.map .int) (ys.map .int) = decide (xs = ys)
  | [], [] => rfl
  | [], _ :: _ => rfl
  | _ :: _, [] => rfl
  | x :: xs, y :: ys => by
    show ((x == y) && PyData.eqvAll (xs.map .int) (ys.map .int)) = _
    rw [eqvAll_ints]
    by_cases h1 : x = y <;> by_cases h2 : xs = ys <;> simp [h1, h2]
theorem toPys_ints {f : Nat → Option PyData} : ∀ {xs : List Int}, toPysW f (xs.map .int) = some (xs.map .int)
  | [] => rfl
  | x :: xs => by
    show (some (PyData.int x)).bind (fun z => (toPysW f (xs.map .int)).map (z :: ·)) = _
    rw [toPys_ints]; rfl
end M

namespace M
open PySem L2
/-! ### what holds behind a run -/
def Ok {α : Type} (r : Rs α) (Q : α → Sto → Prop) : Prop := match r with
  | .ok a S => Q a S
  | _ => False
section
variable {α β : Type} {r : Rs α} {Q Q' : α → Sto → Prop} {S S1 S2 : Sto} {E : En}
theorem Ok.of {a : α} (h : r = .ok a S) (q : Q a S) : Ok r Q := by rw [h]; exact q
theorem Ok.get (h : Ok r Q) : ∃ a S, r = .ok a S ∧ Q a S := by
  cases r with
  | ok a S => exact ⟨a, S, rfl, h⟩
  | exc c fs S => exact h.elim
  | bad => exact h.elim
theorem Ok.mono (h : Ok r Q) (f : ∀ a S, Q a S → Q' a S) : Ok r Q' := by
  obtain ⟨a, S, rfl, q⟩ := h.get
  exact f a S q
theorem Ok.bind {f : α → Sto → Rs β} {Q : β → Sto → Prop} (h : Ok r fun a S => Ok (f a S) Q) : Ok (r.bind f) Q := by
  obtain ⟨a, S, rfl, q⟩ := h.get
  exact q
end
/-- of a statement: N where it goes on, R where it returns -/
def WS (r : Rs Fl) (N : En → Sto → Prop) (R : D → Sto → Prop) : Prop := match r with
  | .ok (.nx E) S => N E S
  | .ok (.rt d) S => R d S
  | _ => False
section
variable {a b : En → Sto → Rs Fl} {m : En → Sto → Rs D} {t : En → Sto → Rs Bool} {g : D → En → Sto → Rs En} {E : En} {S : Sto} {N N' : En → Sto → Prop} {R R' : D → Sto → Prop} {r : Rs Fl}
theorem WS.of {E1 : En} {S1 : Sto} (h : r = .ok (.nx E1) S1) (q : N E1 S1) : WS r N R := by rw [h]; exact q
theorem WS.mono (h : WS r N R) (f : ∀ E S, N E S → N' E S) (f' : ∀ d S, R d S → R' d S) : WS r N' R' := by
  match r, h with
  | .ok (.nx E) S, h => exact f E S h
  | .ok (.rt d) S, h => exact f' d S h
theorem WS.get (h : WS r N (fun _ _ => False)) : ∃ E S, r = .ok (.nx E) S ∧ N E S := by
  match r, h with
  | .ok (.nx E) S, h => exact ⟨E, S, rfl, h⟩
theorem WS.bind {α : Type} {q : Rs α} {f : α → Sto → Rs Fl} (h : Ok q fun x S => WS (f x S) N R) : WS (q.bind f) N R := by
  obtain ⟨x, S, rfl, h⟩ := h.get
  exact h
theorem ws_seq (h : WS (a E S) (fun E1 S1 => WS (b E1 S1) N R) R) : WS (sSeq a b E S) N R := by
  unfold sSeq
  match a E S, h with
  | .ok (.nx E1) S1, h => exact h
  | .ok (.rt d) S1, h => exact h
theorem ws_asg (h : Ok (m E S) fun d S1 => Ok (g d E S1) N) : WS (sAsg m g E S) N R := by
  obtain ⟨d, S1, e, h⟩ := h.get
  obtain ⟨E1, S2, e2, h⟩ := h.get
  rw [asg_ok e e2]
  exact h
theorem ws_expr (h : Ok (m E S) fun _ S1 => N E S1) : WS (sExpr m E S) N R := by
  obtain ⟨d, S1, e, h⟩ := h.get
  unfold sExpr; rw [e]; exact h
theorem ws_if (h : Ok (t E S) fun c S1 => (c = true → WS (a E S1) N R) ∧ (c = false → WS (b E S1) N R)) : WS (sIf t a b E S) N R := by
  obtain ⟨c, S1, e, h1, h2⟩ := h.get
  cases c with
  | true => rw [if_yes e rfl]; exact h1 rfl
  | false => rw [if_no e rfl]; exact h2 rfl
theorem ws_no (h : Ok (t E S) fun c S1 => c = false ∧ WS (b E S1) N R) : WS (sIf t a b E S) N R :=
  ws_if (h.mono fun c S1 h => ⟨(fun z => by rw [h.1] at z; cases z), fun _ => h.2⟩)
theorem ws_yes (h : Ok (t E S) fun c S1 => c = true ∧ WS (a E S1) N R) : WS (sIf t a b E S) N R :=
  ws_if (h.mono fun c S1 h => ⟨fun _ => h.2, (fun z => by rw [h.1] at z; cases z)⟩)
theorem ws_ret (h : Ok (m E S) R) : WS (sRet m E S) N R := by
  obtain ⟨d, S1, e, h⟩ := h.get
  rw [ret_ok e]; exact h
theorem ws_nil (h : N E S) : WS (sNil E S) N R := h
theorem ws_aug {i : Nat} {f : D → D → Sto → Rs D} {x : D} (hx : mV i E S = .ok x S) (h : Ok (m E S) fun y S1 => Ok (f x y S1) fun z S2 => N (E.set i (some z)) S2) : WS (sAug i m f E S) N R := by
  obtain ⟨y, S1, e, h⟩ := h.get
  obtain ⟨z, S2, e2, h⟩ := h.get
  rw [aug_ok hx e e2]
  exact h
theorem ws_par {i j : Nat} {t : En → Sto → Rs (List D)} (h : Ok (t E S) fun ds S1 => ∃ x y, ds = [x, y] ∧ N ((E.set i (some x)).set j (some y)) S1) : WS (sPar i j t E S) N R := by
  obtain ⟨ds, S1, e, x, y, rfl, h⟩ := h.get
  unfold sPar; rw [e]; exact h
theorem ws_par3 {i j l : Nat} {t : En → Sto → Rs (List D)} (h : Ok (t E S) fun ds S1 => ∃ x y z, ds = [x, y, z] ∧ N (((E.set i (some x)).set j (some y)).set l (some z)) S1) : WS (sPar3 i j l t E S) N R := by
  obtain ⟨ds, S1, e, x, y, z, rfl, h⟩ := h.get
  unfold sPar3; rw [e]; exact h
theorem loop_ws {gd : Sto → Prop} {body : D → En → Sto → Rs Fl} (I : Nat → En → Sto → Prop) {items : List D} (hg : ∀ i E S, I i E S → gd S)
    (step : ∀ i d E S, items[i]? = some d → I i E S → WS (body d E S) (I (i + 1)) R) :
    ∀ (n i : Nat) (E : En) (S : Sto), n = items.length - i → i ≤ items.length → I i E S → WS (loop gd body (items.drop i) E S) (I items.length) R
  | 0, i, E, S, hn, hi, h => by
    have e : i = items.length := by omega
    subst e
    rw [List.drop_length, loop, if_pos (hg _ _ _ h)]
    exact h
  | n + 1, i, E, S, hn, hi, h => by
    have hlt : i < items.length := by omega
    rw [List.drop_eq_getElem_cons hlt, loop, if_pos (hg _ _ _ h)]
    have h1 := step i items[i] E S (by simp [hlt]) h
    match body items[i] E S, h1 with
    | .ok (.nx E1) S1, h1 => exact loop_ws I hg step n (i + 1) E1 S1 (by omega) (by omega) h1
    | .ok (.rt d) S1, h1 => exact h1
/-- a loop by an invariant -/
theorem ws_for {mi : En → Sto → Rs AI} {items : List D} {gd : Sto → Prop} {S1 : Sto} (I : Nat → En → Sto → Prop) (hmi : mi E S = .ok ⟨items, gd, none⟩ S1) (h0 : I 0 E S1) (hg : ∀ i E S, I i E S → gd S)
    (step : ∀ i d E S, items[i]? = some d → I i E S → Ok (g d E S) fun E1 S1 => WS (b E1 S1) (I (i + 1)) R) (hN : ∀ E S, I items.length E S → N E S) : WS (sFor mi g b E S) N R := by
  have h := loop_ws (R := R) (body := fun d E S => (g d E S).bind b) I hg (fun i d E S hi h => WS.bind (step i d E S hi h)) items.length 0 E S1 (by omega) (by omega) h0
  rw [List.drop_zero] at h
  unfold sFor
  rw [hmi, bind_ok]
  show WS ((loop gd _ items E S1).bind fun fl S2 => unl none fl S2) N R
  match loop gd (fun d E S => (g d E S).bind b) items E S1, h with
  | .ok (.nx E1) S2, h => exact hN _ _ h
  | .ok (.rt d) S2, h => exact h
theorem ok_mdef {n : Nat} {mb : En → Sto → Rs Fl} {ds : List D} {Q : D → Sto → Prop} (h : WS (mb (startE n ds) S) (fun _ S1 => Ok (gc S.length .non S1) Q) (fun d S1 => Ok (gc S.length d S1) Q)) : Ok (mDef n mb ds S) Q := by
  unfold mDef
  match mb (startE n ds) S, h with
  | .ok (.nx E1) S1, h => exact h
  | .ok (.rt d) S1, h => exact h
end
section
variable {a b m : En → Sto → Rs D} {t u : En → Sto → Rs Bool} {ts : En → Sto → Rs (List D)} {E : En} {S : Sto} {Q : D → Sto → Prop} {B : Bool → Sto → Prop} {L : List D → Sto → Prop}
theorem ok_2 {f : D → D → Sto → Rs D} (h : Ok (a E S) fun x S1 => Ok (b E S1) fun y S2 => Ok (f x y S2) Q) : Ok (m2 f a b E S) Q := by
  obtain ⟨x, S1, e, h⟩ := h.get
  obtain ⟨y, S2, e2, h⟩ := h.get
  rw [m2_ok e e2 rfl]; exact h
theorem ok_1 {f : D → Sto → Rs D} (h : Ok (a E S) fun x S1 => Ok (f x S1) Q) : Ok (m1 f a E S) Q := h.bind
theorem ok_N {f : List D → Sto → Rs D} (h : Ok (ts E S) fun x S1 => Ok (f x S1) Q) : Ok (mN f ts E S) Q := h.bind
theorem ok_call {n : Nat} {f : List D → Sto → Rs D} (h : Ok (ts E S) fun ds S1 => ds.length = n ∧ Ok (f ds S1) Q) : Ok (mN (mCl n f) ts E S) Q := by
  obtain ⟨ds, S1, e, hl, h⟩ := h.get
  obtain ⟨d, S2, e2, h⟩ := h.get
  rw [call_ok e hl e2]; exact h
theorem ok_cons (h : Ok (a E S) fun x S1 => Ok (ts E S1) fun xs S2 => L (x :: xs) S2) : Ok (aCons a ts E S) L := by
  obtain ⟨x, S1, e, h⟩ := h.get
  obtain ⟨y, S2, e2, h⟩ := h.get
  rw [cons_ok e e2]; exact h
theorem ok_nil (h : L [] S) : Ok (aNil E S) L := h
theorem ok_tup (h : Ok (ts E S) fun ds S1 => ds.length ≤ 1000000 ∧ Q (.tup ds) S1) : Ok (mTup ts E S) Q := by
  obtain ⟨ds, S1, e, hl, h⟩ := h.get
  rw [tup_ok e hl]; exact h
theorem ok_lst (h : Ok (ts E S) fun ds S1 => ds.length ≤ 1000000 ∧ Q (.ref S1.length) (S1 ++ [.lst ds])) : Ok (mLst ts E S) Q := by
  obtain ⟨ds, S1, e, hl, h⟩ := h.get
  rw [lst_ok e hl]; exact h
theorem ok_tl {f : List D → Sto → Rs D} (h : Ok (ts E S) fun ds S1 => Ok (f ds S1) Q) : Ok (mTL f ts E S) Q := h.bind
theorem ok_ad (h : Ok (ts E S) fun ds S1 => Q (.ref S1.length) (S1 ++ [.lst ds])) : Ok (mAd ts E S) Q := by
  obtain ⟨ds, S1, e, h⟩ := h.get
  rw [ad_ok e]; exact h
theorem ok_B (h : Ok (m E S) fun d S1 => ∃ c, d = .bl c ∧ B c S1) : Ok (tB m E S) B := by
  obtain ⟨d, S1, e, c, rfl, h⟩ := h.get
  rw [tB_ok e]; exact h
theorem ok_or (h : Ok (t E S) fun c S1 => (c = true → B true S1) ∧ (c = false → Ok (u E S1) B)) : Ok (tOrM t u E S) B := by
  obtain ⟨c, S1, e, h1, h2⟩ := h.get
  unfold tOrM; rw [e]
  cases c with
  | true => exact h1 rfl
  | false => exact h2 rfl
theorem ok_and (h : Ok (t E S) fun c S1 => (c = false → B false S1) ∧ (c = true → Ok (u E S1) B)) : Ok (tAndM t u E S) B := by
  obtain ⟨c, S1, e, h1, h2⟩ := h.get
  unfold tAndM; rw [e]
  cases c with
  | false => exact h1 rfl
  | true => exact h2 rfl
theorem ok_not (h : Ok (t E S) fun c S1 => B (!c) S1) : Ok (tNotM t E S) B := h.bind
theorem ok_ifE (h : Ok (t E S) fun c S1 => (c = true → Ok (a E S1) Q) ∧ (c = false → Ok (b E S1) Q)) : Ok (mIfE t a b E S) Q := by
  obtain ⟨c, S1, e, h1, h2⟩ := h.get
  unfold mIfE; rw [e]
  cases c with
  | true => exact h1 rfl
  | false => exact h2 rfl
/-- no of two -/
theorem ok_or_no (h : Ok (t E S) fun c S1 => c = false ∧ Ok (u E S1) fun c S2 => c = false ∧ B false S2) : Ok (tOrM t u E S) B := by
  obtain ⟨c, S1, e, rfl, h⟩ := h.get
  obtain ⟨c, S2, e2, rfl, h⟩ := h.get
  unfold tOrM; rw [e, bind_ok, if_neg (by simp), e2]
  exact h
theorem gc_all {n : Nat} {d : D} : Ok (gc n d S) fun d' S' => d' = d := by
  unfold gc; split <;> exact rfl
end
end M
namespace M
theorem mN_ok {f : List D → Sto → Rs D} {t : En → Sto → Rs (List D)} {E : En} {S S1 : Sto} {ds : List D} {r : Rs D} (h : t E S = .ok ds S1) (h2 : f ds S1 = r) : mN f t E S = r := by
  unfold mN; rw [h]; exact h2
theorem not_no {a : En → Sto → Rs Bool} {E : En} {S S1 : Sto} (h : a E S = .ok true S1) : tNotM a E S = .ok false S1 := by
  unfold tNotM; rw [h]; rfl
end M
namespace M
open PySem L2
/-- a loop over a dict by tuples, which is locked meanwhile -/
theorem ws_forN {mi : En → Sto → Rs AI} {g : D → En → Sto → Rs En} {b : En → Sto → Rs Fl} {E : En} {S S1 : Sto} {N : En → Sto → Prop} {R : D → Sto → Prop} {items : List D} {n : Nat} {kvs : List (NestedKey × D)} (I : Nat → En → Sto → Prop)
    (hmi : mi E S = .ok ⟨items, fun S => S[n]? = some (.fn kvs), some n⟩ S1) (hS : S1[n]? = some (.dn kvs)) (h0 : I 0 E (S1.set n (.fn kvs))) (hg : ∀ i E S, I i E S → S[n]? = some (.fn kvs))
    (step : ∀ i d E S, items[i]? = some d → I i E S → Ok (g d E S) fun E1 S1 => WS (b E1 S1) (I (i + 1)) (fun _ _ => False)) (hN : ∀ E S, I items.length E S → N E (S.set n (.dn kvs))) : WS (sFor mi g b E S) N R := by
  have h := loop_ws (R := fun _ _ => False) (body := fun d E S => (g d E S).bind b) (gd := fun S => S[n]? = some (.fn kvs)) I hg (fun i d E S hi h => WS.bind (step i d E S hi h)) items.length 0 E (S1.set n (.fn kvs)) (by omega) (by omega) h0
  rw [List.drop_zero] at h
  obtain ⟨E2, S2, e2, h2⟩ := h.get
  have el : lockS (some n) S1 = S1.set n (.fn kvs) := by unfold lockS; simp only [hS]
  have eu : unl (some n) (Fl.nx E2) S2 = .ok (.nx E2) (S2.set n (.dn kvs)) := by unfold unl; simp only [hg _ _ _ h2]
  unfold sFor
  rw [hmi, bind_ok]
  show WS ((loop (fun S => S[n]? = some (.fn kvs)) _ items E (lockS (some n) S1)).bind fun fl S2 => unl (some n) fl S2) N R
  rw [el, e2, bind_ok, eu]
  exact hN _ _ h2
end M

namespace M
open PySem L2
section
variable {X : Cx} {W : XW}
/-! ### isinstance of data -/
/-- int, bool, str, tuple: is it one -/
inductive Ty4n where
  | int | bool | str | tuple
def Ty4n.nm : Ty4n → String
  | .int => "int"
  | .bool => "bool"
  | .str => "str"
  | .tuple => "tuple"
def fIsT (T : Ty4n) (d : D) (S : Sto) : Rs D := match d with
  | .non => .ok (.bl false) S
  | .bl _ => .ok (.bl (match T with | .int => true | .bool => true | _ => false)) S
  | .int _ => .ok (.bl (match T with | .int => true | _ => false)) S
  | .str _ => .ok (.bl (match T with | .str => true | _ => false)) S
  | .tup _ => .ok (.bl (match T with | .tuple => true | _ => false)) S
  | .ref n => (match S[n]? with
    | some (.lst _) => .ok (.bl false) S
    | some (.dk _) => .ok (.bl false) S
    | _ => .bad)
  | _ => .bad
theorem tup_ty {K : PySem.W.Frag} {H : Hp} {a : Addr} {xs : List V} (h : SqT K H a xs) : TyX K H (.ref a) (.type "tuple") := by
  rcases h with (h | ⟨o, h⟩) | h
  · exact .base (.tup h)
  · exact .fTuple h
  · obtain ⟨_, _, _, h1, h2, _⟩ := h
    exact .kTuple h1 h2
theorem me_isT {e : Expr} {m : En → Sto → Rs D} (T : Ty4n) {p p2 pos : Pos} (hg : Gl X "isinstance") (hm : X.mg "isinstance" = none) (he : ME X W e m) (hy : Gl X (Str.ofString T.nm)) (hyn : X.mg (Str.ofString T.nm) = none)
    (hv : bootBuiltins (Str.ofString T.nm) = some (.type T.nm)) (hdb : ((Str.ofString T.nm) == ("__debug__" : Str)) = false) (hnn : (Str.ofString T.nm) ≠ "__name__")
    (hs1 : starEach [e, .Name (Str.ofString T.nm) p2] X.env = (false, eval e X.env) :: starEach [.Name (Str.ofString T.nm) p2] X.env := by rfl) (hs2 : starEach [.Name (Str.ofString T.nm) p2] X.env = (false, eval (.Name (Str.ofString T.nm) p2) X.env) :: starEach [] X.env := by rfl) (hpl : (backTo pos (starEach [.Name (Str.ofString T.nm) p2] X.env)).any (·.1) = false := by rfl) :
    ME X W (.Call (.Name "isinstance" p) [e, .Name (Str.ofString T.nm) p2] [] pos) (m1 (fIsT T) m) :=
  PE.imp (pe_callB call_isi hg hm PyProof.Rows.boot_isinstance (pa_cons he (pa_cons (pe_bltn (v := .ty T.nm) hy hyn hv rfl hnn hdb) pa_nil hs2) hs1) (by decide) (by decide) hs1 hpl) fun σ H Q q => by
    obtain ⟨pp, S, E, hs, he, q⟩ := q
    refine lE_step hs he (post_mono (fun d S1 p1 H1 x1 hs1 q1 v rv => ?_) (post_bind q))
    have fin : ∀ {t : String} {b : Bool}, TyX X.K H1 v (.type t) → kitB t T.nm = some b → fIsT T d S1 = .ok (.bl b) S1 → rIsi X.K [v, .ty T.nm] H1 Q := fun ty hk hf => by
      rw [hf] at q1
      exact ⟨_, _, _, _, _, rfl, .ty _, ty, kit_ty hk, post_ok q1 hs1 _ rfl⟩
    cases d with
    | non => obtain rfl := rv; exact fin (.base .non) (b := false) (by cases T <;> decide +kernel) rfl
    | bl b => obtain rfl := rv; exact fin (.base (.bl b)) (by cases T <;> decide +kernel) rfl
    | int i => obtain rfl := rv; exact fin (.base (.int i)) (by cases T <;> decide +kernel) rfl
    | str x => obtain rfl := rv; exact fin (.base (.str x)) (by cases T <;> decide +kernel) rfl
    | tup ds => obtain ⟨a, vs, rfl, e, _⟩ := rv; exact fin (tup_ty e) (by cases T <;> decide +kernel) rfl
    | ref n =>
      obtain ⟨a, ea, rfl⟩ := rv
      unfold fIsT at q1
      simp only [] at q1
      split at q1
      · rename_i ds hd
        obtain ⟨us, ex, rs⟩ := lst_at hs1 ea hd
        exact ⟨_, _, _, _, _, rfl, .ty _, .base (.lst ex), kit_ty (b := T.nm) (r := false) (by cases T <;> decide +kernel), post_ok q1 hs1 _ rfl⟩
      · rename_i kvs hd
        obtain ⟨x, ex, ws, rfl, rk⟩ := hs1.get n a _ ea hd
        exact ⟨_, _, _, _, _, rfl, .ty _, .base (.dK ex), kit_ty (b := T.nm) (r := false) (by cases T <;> decide +kernel), post_ok q1 hs1 _ rfl⟩
      · exact q1.elim
    | raw u => exact q1.elim
    | rl ns => exact q1.elim
    | ptp ds => exact q1.elim
/-! ### all, any of truths -/
def toBls : List D → Option (List Bool)
  | [] => some []
  | .bl b :: r => (toBls r).map (b :: ·)
  | _ :: _ => none
theorem toBls_map : ∀ bs : List Bool, toBls (bs.map .bl) = some bs
  | [] => rfl
  | b :: bs => by rw [List.map_cons, toBls, toBls_map bs]; rfl
theorem toBls_eq : ∀ {ds : List D} {bs : List Bool}, toBls ds = some bs → ds = bs.map .bl
  | [], bs, h => by cases h; rfl
  | d :: ds, bs, h => by
    cases d <;> try (cases h)
    rename_i b
    unfold toBls at h
    cases hq : toBls ds with
    | none => rw [hq] at h; cases h
    | some cs =>
      rw [hq] at h
      cases h
      rw [toBls_eq hq]; rfl
theorem bls_read {K : KX} {p : List Addr} {H : Hp} : ∀ {bs : List Bool} {vs : List V}, RDs K p H (bs.map .bl) vs → vs = bs.map .bl
  | [], vs, h => h
  | b :: bs, vs, h => by
    obtain ⟨v, r, rfl, h1, h2⟩ := h
    obtain rfl : v = .bl b := h1
    rw [bls_read h2]; rfl
def fAll (ds : List D) (S : Sto) : Rs D := match toBls ds with
  | some bs => .ok (.bl (bs.all id)) S
  | none => .bad
def fAny (ds : List D) (S : Sto) : Rs D := match toBls ds with
  | some bs => .ok (.bl (bs.any id)) S
  | none => .bad
theorem pr_allTL : PrimTL (gX X) W (rAll X.K) fAll := by
  intro p S H ds vs a Q hs r ha hz q
  unfold fAll at q
  split at q
  · rename_i bs hb
    rw [toBls_eq hb] at r
    rw [bls_read r]
    exact ⟨a, bs, rfl, .of upd_same, q p _ (Ext.new ha) (hs.frame ha) _ rfl⟩
  · exact q.elim
theorem pr_anyTL : PrimTL (gX X) W (rAny X.K) fAny := by
  intro p S H ds vs a Q hs r ha hz q
  unfold fAny at q
  split at q
  · rename_i bs hb
    rw [toBls_eq hb] at r
    rw [bls_read r]
    exact ⟨a, bs, rfl, .of upd_same, q p _ (Ext.new ha) (hs.frame ha) _ rfl⟩
  · exact q.elim
/-! ### min, max, sum of a list by name -/
def lsOf (ds : List D) (S : Sto) : Option (List Int) := match ds with
  | [.ref n] => (match S[n]? with
    | some (.lst xs) => toInts xs
    | _ => none)
  | _ => none
theorem lsOf_read {p : List Addr} {S : Sto} {H : Hp} {xs : List D} {vs : List V} {ns : List Int} (hs : RS (gX X) p S H) (r : RDs (gX X) p H xs vs) (h : lsOf xs S = some ns) : ∃ a, vs = [.ref a] ∧ SqL X.K H a (ns.map V.int) := by
  unfold lsOf at h
  split at h
  · rename_i n
    obtain ⟨v, rfl, rv⟩ := one_of r
    obtain ⟨a, ea, rfl⟩ := rv
    split at h
    · rename_i ds hd
      obtain ⟨us, ex, rs⟩ := lst_at hs ea hd
      rw [toInts_eq h] at rs
      rw [ints_read rs] at ex
      exact ⟨a, rfl, .of ex⟩
    · cases h
  · cases h
def fMinL (ds : List D) (S : Sto) : Rs D := match lsOf ds S with
  | some (n :: ns) => .ok (.int (ns.foldl min n)) S
  | _ => .bad
def fMaxL (ds : List D) (S : Sto) : Rs D := match lsOf ds S with
  | some (n :: ns) => .ok (.int (ns.foldl max n)) S
  | _ => .bad
def fSumL (ds : List D) (S : Sto) : Rs D := match lsOf ds S with
  | some ns => .ok (.int ns.sum) S
  | _ => .bad
theorem pr_minL : PrimN (gX X) W (rMin X.K) fMinL := by
  intro p S H xs vs Q hs r q
  unfold fMinL at q
  split at q
  · rename_i n ns hn
    obtain ⟨a, rfl, e⟩ := lsOf_read hs r hn
    refine ⟨a, n :: ns, rfl, e, by simp, fun m hm hall => ?_⟩
    obtain ⟨h1, h2⟩ := foldl_min_spec ns n
    have e : m = ns.foldl min n := Int.le_antisymm (hall _ h2) (h1 m hm)
    rw [e]
    exact post_ok q hs _ rfl
  · exact q.elim
theorem pr_maxL : PrimN (gX X) W (rMax X.K) fMaxL := by
  intro p S H xs vs Q hs r q
  unfold fMaxL at q
  split at q
  · rename_i n ns hn
    obtain ⟨a, rfl, e⟩ := lsOf_read hs r hn
    refine ⟨a, n :: ns, rfl, e, by simp, fun m hm hall => ?_⟩
    obtain ⟨h1, h2⟩ := foldl_max_spec ns n
    have e : m = ns.foldl max n := Int.le_antisymm (h1 m hm) (hall _ h2)
    rw [e]
    exact post_ok q hs _ rfl
  · exact q.elim
theorem pr_sumL : PrimN (gX X) W (rSum X.K) fSumL := by
  intro p S H xs vs Q hs r q
  unfold fSumL at q
  split at q
  · rename_i ns hn
    obtain ⟨a, rfl, e⟩ := lsOf_read hs r hn
    exact ⟨a, ns, rfl, e, post_ok q hs _ rfl⟩
  · exact q.elim
/-! ### list(x) -/
def fList (ds : List D) (S : Sto) : Rs D := match ds with
  | [.tup xs] => .ok (.ref S.length) (S ++ [.lst xs])
  | [.rl ns] => .ok (.ref S.length) (S ++ [.lst (ns.map .int)])
  | [.ref n] => (match S[n]? with
    | some (.lst xs) => .ok (.ref S.length) (S ++ [.lst xs])
    | _ => .bad)
  | _ => .bad
theorem pr_list : PrimN (gX X) W (fun xs H Q => ∃ p ys, xs = [.ref p] ∧ (SqL X.K H p ys ∨ SqT X.K H p ys) ∧ ∀ l, H l = none → Q (.ref l) (upd H l (.lst ys))) fList := by
  intro p S H xs vs Q hs r q
  unfold fList at q
  split at q
  · obtain ⟨v, rfl, rv⟩ := one_of r
    obtain ⟨a, us, rfl, e, rs⟩ := rv
    exact ⟨a, us, rfl, .inr e, fun l hl => new_obj hs (o := .lst _) ⟨us, rfl, rs⟩ q hl⟩
  · obtain ⟨v, rfl, rv⟩ := one_of r
    obtain ⟨a, rfl, e⟩ := rv
    exact ⟨a, _, rfl, .inl e.sq, fun l hl => new_obj hs (o := .lst _) ⟨_, rfl, rds_ints _⟩ q hl⟩
  · obtain ⟨v, rfl, rv⟩ := one_of r
    obtain ⟨a, ea, rfl⟩ := rv
    split at q
    · rename_i ds hd
      obtain ⟨us, ex, rs⟩ := lst_at hs ea hd
      exact ⟨a, us, rfl, .inl (.of ex), fun l hl => new_obj hs (o := .lst _) ⟨us, rfl, rs⟩ q hl⟩
    · exact q.elim
  · exact q.elim
/-! ### insert, pop(i), extend -/
def fInsert (x : D) (xs : List D) (S : Sto) : Rs D := match x, xs with
  | .ref n, [.int i, y] => (match S[n]? with
    | some (.lst ds) => if ds.length < sizeLine ∧ 0 ≤ i ∧ i < 2 ^ 62 then .ok .non (S.set n (.lst (ds.take i.toNat ++ y :: ds.drop i.toNat))) else .bad
    | _ => .bad)
  | _, _ => .bad
def fPopAt (x : D) (xs : List D) (S : Sto) : Rs D := match x, xs with
  | .ref n, [.int i] => (match S[n]? with
    | some (.lst ds) => if 0 ≤ i ∧ i < 2 ^ 62 then (match ds[i.toNat]? with
      | some y => .ok y (S.set n (.lst (ds.eraseIdx i.toNat)))
      | none => .bad) else .bad
    | _ => .bad)
  | _, _ => .bad
def fExtend (x : D) (xs : List D) (S : Sto) : Rs D := match x, xs with
  | .ref n, [.ref m] => (match S[n]?, S[m]? with
    | some (.lst ds), some (.lst es) => if ds.length + es.length ≤ sizeLine then .ok .non (S.set n (.lst (ds ++ es))) else .bad
    | _, _ => .bad)
  | _, _ => .bad
theorem seqIx {i : Int} {n : Nat} (h0 : 0 ≤ i) (h : i.toNat < n) : seqIndex? i n = some i.toNat := by
  have e : (if i < 0 then i + (n : Int) else i) = i := if_neg (by omega)
  unfold seqIndex?
  simp only [e]
  rw [if_pos (by rw [decide_eq_true h0, decide_eq_true (by omega)]; rfl)]
theorem pr_popAt : PrimM (gX X) W rPopAt fPopAt := by
  intro p S H x xs v vs Q hs rx rxs q
  unfold fPopAt at q
  split at q
  · rename_i n i
    obtain ⟨a, ea, rfl⟩ := rx
    obtain ⟨u, rfl, ru⟩ := one_of rxs
    obtain rfl : u = .int i := ru
    split at q
    · rename_i ds hd
      split at q
      · rename_i hb
        split at q
        · rename_i y hy
          obtain ⟨z, ez, us, rfl, rs⟩ := hs.get n a _ ea hd
          obtain ⟨w, hw, rw⟩ := rs.get hy
          have hlt : i.toNat < us.length := (List.getElem?_eq_some_iff.mp hw).1
          refine ⟨a, us, i, i.toNat, w, rfl, rfl, ez, by omega, by omega, seqIx hb.1 hlt, hw, ?_⟩
          have x1 : Ext (gX X) p H p (upd H a (.lst (us.eraseIdx i.toNat))) := Ext.set (mem_of_get ea) ez (.inl rfl) (fun _ _ z => by cases z)
          have rs2 : RDs (gX X) p H (ds.eraseIdx i.toNat) (us.eraseIdx i.toNat) := by
            rw [List.eraseIdx_eq_take_drop_succ, List.eraseIdx_eq_take_drop_succ]
            exact (rs.take _).append (rs.drop _)
          exact q p _ x1 (hs.set ea hd ez (.inl rfl) ⟨_, rfl, rs2⟩) w (rw.mono x1.pre x1.tup)
        · exact q.elim
      · exact q.elim
    · exact q.elim
  · exact q.elim
theorem pr_extend : PrimM (gX X) W rExtend fExtend := by
  intro p S H x xs v vs Q hs rx rxs q
  unfold fExtend at q
  split at q
  · rename_i n m
    obtain ⟨a, ea, rfl⟩ := rx
    obtain ⟨u, rfl, ru⟩ := one_of rxs
    obtain ⟨b, eb, rfl⟩ := ru
    split at q
    · rename_i ds es hd he
      split at q
      · rename_i hz
        obtain ⟨z, ez, us, rfl, rs⟩ := hs.get n a _ ea hd
        obtain ⟨z2, ez2, ws, rfl, rs2⟩ := hs.get m b _ eb he
        refine ⟨a, b, us, ws, rfl, rfl, ez, ez2, by rw [← rs.length, ← rs2.length]; exact hz, ?_⟩
        have x1 : Ext (gX X) p H p (upd H a (.lst (us ++ ws))) := Ext.set (mem_of_get ea) ez (.inl rfl) (fun _ _ z => by cases z)
        exact q p _ x1 (hs.set ea hd ez (.inl rfl) ⟨_, rfl, rs.append rs2⟩) .non rfl
      · exact q.elim
    · exact q.elim
  · exact q.elim
theorem pr_insert : PrimM (gX X) W (fun x vs H Q => ∃ (l : Addr) (xs : List V) (i : Int) (y : V), x = .ref l ∧ vs = [.int i, y] ∧ H l = some (.lst xs) ∧ xs.length < sizeLine ∧ 0 ≤ i ∧ i < 2 ^ 63 ∧
    Q .non (upd H l (.lst (xs.take i.toNat ++ [y] ++ xs.drop i.toNat)))) fInsert := by
  intro p S H x xs v vs Q hs rx rxs q
  unfold fInsert at q
  split at q
  · rename_i n i y
    obtain ⟨a, ea, rfl⟩ := rx
    obtain ⟨u, w, rfl, ru, rw⟩ := two_of rxs
    obtain rfl : u = .int i := ru
    split at q
    · rename_i ds hd
      split at q
      · rename_i hz
        obtain ⟨z, ez, us, rfl, rs⟩ := hs.get n a _ ea hd
        refine ⟨a, us, i, w, rfl, rfl, ez, by rw [← rs.length]; exact hz.1, hz.2.1, by omega, ?_⟩
        have x1 : Ext (gX X) p H p (upd H a (.lst (us.take i.toNat ++ [w] ++ us.drop i.toNat))) := Ext.set (mem_of_get ea) ez (.inl rfl) (fun _ _ z => by cases z)
        have e : ds.take i.toNat ++ y :: ds.drop i.toNat = ds.take i.toNat ++ [y] ++ ds.drop i.toNat := by simp
        rw [e] at q
        exact q p _ x1 (hs.set ea hd ez (.inl rfl) ⟨_, rfl, ((rs.take _).append (.one rw)).append (rs.drop _)⟩) .non rfl
      · exact q.elim
    · exact q.elim
  · exact q.elim
end
end M

namespace M
open PySem L2
section
variable {X : Cx} {W : XW}
/-! ### range(..) as an argument -/
def PRgC (X : Cx) (e : Expr) (t : St → Hp → (Int → Int → Int → Hp → Prop) → Prop) : Prop :=
  ∀ (pins : List (Addr × Obj)) (s : Shared) (σ : St) (H : Hp) (Q : Int → Int → Int → Hp → Prop), Inv X pins σ H s → t σ H Q →
    wpAny (model X.prog X.w) X.A (eval e X.env) (fun x s' => ∃ r a b c t u v H', x = .ref r ∧ IsRange s'.heap r a b c t u v ∧ Inv X pins σ H' s' ∧ Q a b c H') X.xe s
def tRgC (ta : TA) : St → Hp → (Int → Int → Int → Hp → Prop) → Prop := fun σ H Q => ta σ H fun vs H1 => (∃ n, vs = [.int n] ∧ Q 0 n 1 H1) ∨ (∃ i j, vs = [.int i, .int j] ∧ Q i j 1 H1) ∨ ∃ i j c, vs = [.int i, .int j, .int c] ∧ c ≠ 0 ∧ c.natAbs < 1073741824 ∧ Q i j c H1
theorem prgc {e : Expr} {es : List Expr} {ta : TA} {p pos : Pos} (hg : Gl X "range") (hm : X.mg "range" = none) (ha : PA X (e :: es) ta) (hs : starEach (e :: es) X.env = (false, eval e X.env) :: starEach es X.env := by rfl) (hpl : (backTo pos (starEach es X.env)).any (·.1) = false := by rfl) :
    PRgC X (.Call (.Name "range" p) (e :: es) [] pos) (tRgC ta) := by
  intro pins s σ H Q I h
  refine PyProof.Rows.Call_ (ld_blt I hg hm PyProof.Rows.boot_range (PyProof.Rows.callWith_type1 (thn (ha.run pos pins s σ H _ I h) fun us s1 ⟨vs, H1, I1, r1, q1⟩ => ?_) hs hpl))
  rcases q1 with ⟨n, rfl, q⟩ | ⟨i, j, rfl, q⟩ | ⟨i, j, k, rfl, c0, c1, q⟩
  · obtain ⟨u, rfl, ru⟩ := vals1 r1
    obtain ⟨t, rfl⟩ := ru
    exact call_range_1 ⟨_, 0, n, 1, _, _, _, H1, rfl, IsRange.new _ _ _ _ _ _ _, I1.kept fun b u e => Heap.get?_push_of_some _ e, q⟩
  · cases r1 with
    | cons r rr =>
      obtain ⟨u, rfl, ru⟩ := vals1 rr
      obtain ⟨t, rfl⟩ := r
      obtain ⟨t', rfl⟩ := ru
      exact call_range_2 ⟨_, i, j, 1, _, _, _, H1, rfl, IsRange.new _ _ _ _ _ _ _, I1.kept fun b u e => Heap.get?_push_of_some _ e, q⟩
  · cases r1 with
    | cons r rr =>
      cases rr with
      | cons r' rr =>
        obtain ⟨u, rfl, ru⟩ := vals1 rr
        obtain ⟨t, rfl⟩ := r
        obtain ⟨t', rfl⟩ := r'
        obtain ⟨t'', rfl⟩ := ru
        exact call_range_3 c0 ⟨_, i, j, k, _, _, _, H1, rfl, IsRange.new _ _ _ _ _ _ _, I1.kept fun b u e => Heap.get?_push_of_some _ e, q⟩ (.inl (PyProof.noPylong_small c1))
/-- the ints of a range -/
def rgN (i j c : Int) : Nat := if i < j then ((j - i - 1) / c + 1).toNat else 0
def rgI (i j c : Int) : List Int := (List.range (rgN i j c)).map fun k => i + (k : Nat) * c
def RgGood (i j c : Int) : Prop := -(2 ^ 40) ≤ i ∧ i < 2 ^ 40 ∧ -(2 ^ 40) ≤ j ∧ j < 2 ^ 40 ∧ 0 < c ∧ c < 1073741824 ∧ rgN i j c ≤ 16777216
theorem rgN_size {i j c : Int} (h : RgGood i j c) : Builtin.Range.rangeSize i j c = (rgN i j c : Int) := by
  unfold Builtin.Range.rangeSize rgN
  rw [if_pos h.2.2.2.2.1]
  split
  · have : 0 ≤ (j - i - 1) / c := Int.ediv_nonneg (by omega) (by have := h.2.2.2.2.1; omega)
    omega
  · rfl
theorem rg_small {i j c : Int} (h : RgGood i j c) : Builtin.Range.small i j c = true := by
  have e := rgN_size h
  obtain ⟨h1, h2, h3, h4, h5, h6, h7⟩ := h
  unfold Builtin.Range.small
  rw [e]
  simp only [Builtin.Range.rangeFitsLong, Bool.and_eq_true, Bool.or_eq_true, decide_eq_true_eq, beq_iff_eq, h5, if_true]
  refine ⟨⟨⟨⟨?_, ?_⟩, ?_⟩, ?_⟩, ?_⟩ <;> omega
theorem vals_rgC {i c : Int} {n : Nat} {acc : Array Value} (h : ItemsOf (fun k v => ∃ t, v = .int (i + k * c) t) acc n) : Vals (((List.range n).map fun k : Nat => i + (k : Nat) * c).map V.int) acc.toList := by
  have e : acc.toList.length = n := by rw [Array.length_toList]; exact h.1
  rw [List.map_map, ← e]
  refine vals_of_get acc.toList _ fun j u hj => ?_
  obtain ⟨t, rfl⟩ := h.2 j u (by rw [← hj, Array.getElem?_toList])
  exact ⟨t, rfl⟩
def tLstRgC (te : St → Hp → (Int → Int → Int → Hp → Prop) → Prop) : TE := fun σ H Q => te σ H fun a b c H1 => RgGood a b c ∧ ∀ q, H1 q = none → Q (.ref q) (upd H1 q (.lst ((rgI a b c).map V.int)))
def tTupRgC (te : St → Hp → (Int → Int → Int → Hp → Prop) → Prop) : TE := fun σ H Q => te σ H fun a b c H1 => RgGood a b c ∧ ∀ q, H1 q = none → Q (.ref q) (upd H1 q (.tup ((rgI a b c).map V.int)))
theorem pe_listRgC {e : Expr} {te : St → Hp → (Int → Int → Int → Hp → Prop) → Prop} {p pos : Pos} (hc : X.calm = true) (hg : Gl X "list") (hm : X.mg "list" = none) (he : PRgC X e te) (na : starEach [e] X.env = (false, eval e X.env) :: starEach [] X.env := by rfl) : PE X (.Call (.Name "list" p) [e] [] pos) (tLstRgC te) := by
  refine ⟨fun pins s σ H Q I h => ?_⟩
  refine PyProof.Rows.Call_ (ld_blt I hg hm PyProof.Rows.boot_list (PyProof.Rows.callWith_type1 (PyProof.Rows.args_cons (thn (he pins s σ H _ I h) fun x s1 ⟨r, a, b, c, t, u, v, H1, ex, hr, I1, ok, q⟩ => PyProof.Rows.args_nil ?_) na) na))
  subst ex
  refine call_list_range (n := rgN a b c) (I1.ok.hd hc) hr (rg_small ok) (rgN_size ok) (by have := ok.2.2.2.2.2.2; omega) fun h' tk acc c' hk e' hi => ?_
  refine ⟨.ref s1.heap.objs.size, upd H1 s1.heap.objs.size (.lst ((rgI a b c).map V.int)), I1.laid hk (Nat.le_refl _) (show ObjOk X.prog X.w _ _ _ (.lst ((rgI a b c).map V.int)) from ⟨?_, acc.toList, c', vals_rgC hi, ?_⟩), rfl, q _ (I1.hok.fresh (Nat.le_refl _))⟩
  · have := ok.2.2.2.2.2.2
    have hz : (16777216 : Nat) ≤ sizeLine := by decide
    simp [rgI]; omega
  · rw [Array.toArray_toList]; exact e'
theorem pe_tupRgC {e : Expr} {te : St → Hp → (Int → Int → Int → Hp → Prop) → Prop} {p pos : Pos} (hc : X.calm = true) (hg : Gl X "tuple") (hm : X.mg "tuple" = none) (he : PRgC X e te) (na : starEach [e] X.env = (false, eval e X.env) :: starEach [] X.env := by rfl) : PE X (.Call (.Name "tuple" p) [e] [] pos) (tTupRgC te) := by
  refine ⟨fun pins s σ H Q I h => ?_⟩
  refine PyProof.Rows.Call_ (ld_blt I hg hm PyProof.Rows.boot_tuple (PyProof.Rows.callWith_type1 (PyProof.Rows.args_cons (thn (he pins s σ H _ I h) fun x s1 ⟨r, a, b, c, t, u, v, H1, ex, hr, I1, ok, q⟩ => PyProof.Rows.args_nil ?_) na) na))
  subst ex
  refine call_tuple_range (n := rgN a b c) (I1.ok.hd hc) hr (rg_small ok) (rgN_size ok) (by have := ok.2.2.2.2.2.2; omega) fun h' tk acc hk hi => ?_
  have I2 : Inv X pins σ H1 { s1 with heap := h', toks := tk } := I1.kept hk
  refine ⟨.ref h'.objs.size, upd H1 h'.objs.size (.tup ((rgI a b c).map V.int)), I2.laid (t' := tk) (fun c o e => Heap.get?_push_of_some _ e) (Nat.le_refl _) (show ObjOk X.prog X.w _ _ _ (.tup ((rgI a b c).map V.int)) from ⟨?_, acc.toList, vals_rgC hi, ?_⟩), rfl, q _ (I2.hok.fresh (Nat.le_refl _))⟩
  · have := ok.2.2.2.2.2.2
    have hz : (16777216 : Nat) ≤ sizeLine := by decide
    simp [rgI]; omega
  · rw [Array.toArray_toList]; exact PyProof.Rows.IsTup.new _ _
/-- the bounds that a range is called with -/
def rgOf (ds : List D) : Option (Int × Int × Int) := match ds with
  | [.int n] => some (0, n, 1)
  | [.int i, .int j] => some (i, j, 1)
  | [.int i, .int j, .int c] => some (i, j, c)
  | _ => none
def rgB (i j c : Int) : Bool := decide (-(2 ^ 40) ≤ i) && decide (i < 2 ^ 40) && decide (-(2 ^ 40) ≤ j) && decide (j < 2 ^ 40) && decide (0 < c) && decide (c < 1073741824) && decide (rgN i j c ≤ 16777216)
theorem rgB_ok {i j c : Int} (h : rgB i j c = true) : RgGood i j c := by
  unfold rgB at h
  simp only [Bool.and_eq_true, decide_eq_true_eq] at h
  obtain ⟨⟨⟨⟨⟨⟨a, b⟩, c⟩, d⟩, e⟩, f⟩, g⟩ := h
  exact ⟨a, b, c, d, e, f, g⟩
def fLstRg (ds : List D) (S : Sto) : Rs D := match rgOf ds with
  | some (i, j, c) => if rgB i j c then .ok (.ref S.length) (S ++ [.lst ((rgI i j c).map .int)]) else .bad
  | none => .bad
def fTupRg (ds : List D) (S : Sto) : Rs D := match rgOf ds with
  | some (i, j, c) => if rgB i j c then .ok (.tup ((rgI i j c).map .int)) S else .bad
  | none => .bad
theorem rgOf_read {p : List Addr} {H : Hp} {ds : List D} {vs : List V} {i j c : Int} {Q : Int → Int → Int → Hp → Prop} (r : RDs (gX X) p H ds vs) (h : rgOf ds = some (i, j, c)) (hc : 0 < c ∧ c < 1073741824) (q : Q i j c H) : (∃ n, vs = [.int n] ∧ Q 0 n 1 H) ∨ (∃ i j, vs = [.int i, .int j] ∧ Q i j 1 H) ∨ ∃ i j c, vs = [.int i, .int j, .int c] ∧ c ≠ 0 ∧ c.natAbs < 1073741824 ∧ Q i j c H := by
  unfold rgOf at h
  split at h
  · cases h
    obtain ⟨v, rfl, rv⟩ := one_of r
    exact .inl ⟨_, by rw [show v = _ from rv], q⟩
  · cases h
    obtain ⟨v, u, rfl, rv, ru⟩ := two_of r
    exact .inr (.inl ⟨_, _, by rw [show v = _ from rv, show u = _ from ru], q⟩)
  · cases h
    obtain ⟨v, us, rfl, rv, r2⟩ := r
    obtain ⟨u, w, rfl, ru, rw'⟩ := two_of r2
    exact .inr (.inr ⟨_, _, _, by rw [show v = _ from rv, show u = _ from ru, show w = _ from rw'], by omega, by omega, q⟩)
  · cases h
theorem me_lstRg {e : Expr} {es : List Expr} {t : En → Sto → Rs (List D)} {p p2 pos pos2 : Pos} (hc : X.calm = true) (hg : Gl X "list") (hm : X.mg "list" = none) (hg2 : Gl X "range") (hm2 : X.mg "range" = none) (ha : MA X W (e :: es) t)
    (hs : starEach (e :: es) X.env = (false, eval e X.env) :: starEach es X.env := by rfl) (hpl : (backTo pos2 (starEach es X.env)).any (·.1) = false := by rfl) (na : starEach [.Call (.Name "range" p2) (e :: es) [] pos2] X.env = (false, eval (.Call (.Name "range" p2) (e :: es) [] pos2) X.env) :: starEach [] X.env := by rfl) :
    ME X W (.Call (.Name "list" p) [.Call (.Name "range" p2) (e :: es) [] pos2] [] pos) (mN fLstRg t) :=
  PE.imp (pe_listRgC hc hg hm (prgc hg2 hm2 ha hs hpl) na) fun σ H Q q => by
    obtain ⟨p, S, E, hs, he, q⟩ := q
    refine ⟨p, S, E, hs, he, post_mono (fun ds S1 p1 H1 x1 hs1 q1 vs rvs => ?_) (post_bind q)⟩
    unfold fLstRg at q1
    split at q1
    · rename_i i j c hr
      split at q1
      · rename_i hb
        have ok := rgB_ok hb
        exact rgOf_read (Q := fun a b c H1 => RgGood a b c ∧ ∀ q, H1 q = none → Q (.ref q) (upd H1 q (.lst ((rgI a b c).map V.int)))) rvs hr ⟨ok.2.2.2.2.1, ok.2.2.2.2.2.1⟩ ⟨ok, fun l hl => new_obj hs1 (o := .lst _) ⟨_, rfl, rds_ints _⟩ q1 hl⟩
      · exact q1.elim
    · exact q1.elim
theorem me_tupRg {e : Expr} {es : List Expr} {t : En → Sto → Rs (List D)} {p p2 pos pos2 : Pos} (hc : X.calm = true) (hg : Gl X "tuple") (hm : X.mg "tuple" = none) (hg2 : Gl X "range") (hm2 : X.mg "range" = none) (ha : MA X W (e :: es) t)
    (hs : starEach (e :: es) X.env = (false, eval e X.env) :: starEach es X.env := by rfl) (hpl : (backTo pos2 (starEach es X.env)).any (·.1) = false := by rfl) (na : starEach [.Call (.Name "range" p2) (e :: es) [] pos2] X.env = (false, eval (.Call (.Name "range" p2) (e :: es) [] pos2) X.env) :: starEach [] X.env := by rfl) :
    ME X W (.Call (.Name "tuple" p) [.Call (.Name "range" p2) (e :: es) [] pos2] [] pos) (mN fTupRg t) :=
  PE.imp (pe_tupRgC hc hg hm (prgc hg2 hm2 ha hs hpl) na) fun σ H Q q => by
    obtain ⟨p, S, E, hs, he, q⟩ := q
    refine ⟨p, S, E, hs, he, post_mono (fun ds S1 p1 H1 x1 hs1 q1 vs rvs => ?_) (post_bind q)⟩
    unfold fTupRg at q1
    split at q1
    · rename_i i j c hr
      split at q1
      · rename_i hb
        have ok := rgB_ok hb
        exact rgOf_read (Q := fun a b c H1 => RgGood a b c ∧ ∀ q, H1 q = none → Q (.ref q) (upd H1 q (.tup ((rgI a b c).map V.int)))) rvs hr ⟨ok.2.2.2.2.1, ok.2.2.2.2.2.1⟩ ⟨ok, fun l hl => new_tup hs1 (rds_ints _) q1 hl⟩
      · exact q1.elim
    · exact q1.elim
end
end M

namespace M
open PySem L2
section
variable {X : Cx} {W : XW}
/-! ### x[::-1], x[:0:-1] -/
theorem rev_pick {xs : Array Value} {k n : Nat} (hn : n = xs.size) : ((List.range (n - k)).filterMap fun (m : Nat) => xs[(((n : Int) - 1) + (m : Int) * (-1)).toNat]?).toArray = (xs.toList.drop k).reverse.toArray := by
  congr 1
  subst hn
  apply List.ext_getElem?
  intro i
  have hall : ∀ m ∈ List.range (xs.size - k), (fun (m : Nat) => xs[(((xs.size : Nat) : Int) - 1 + (m : Int) * (-1)).toNat]?) m = some (xs.toList.getD (xs.size - 1 - m) default) := fun m hm => by
    have hm := List.mem_range.mp hm
    have e : ((((xs.size : Nat) : Int) - 1 + (m : Int) * (-1)).toNat) = xs.size - 1 - m := by omega
    have hl : xs.size - 1 - m < xs.size := by omega
    simp only [e]
    rw [Array.getElem?_eq_getElem hl, List.getD_eq_getElem?_getD, List.getElem?_eq_getElem (by simpa using hl)]
    simp
  have e2 : (List.range (xs.size - k)).filterMap (fun (m : Nat) => xs[(((xs.size : Nat) : Int) - 1 + (m : Int) * (-1)).toNat]?) = (List.range (xs.size - k)).map fun m => xs.toList.getD (xs.size - 1 - m) default := by
    have : ∀ l : List Nat, (∀ m ∈ l, (fun (m : Nat) => xs[(((xs.size : Nat) : Int) - 1 + (m : Int) * (-1)).toNat]?) m = some (xs.toList.getD (xs.size - 1 - m) default)) → l.filterMap (fun (m : Nat) => xs[(((xs.size : Nat) : Int) - 1 + (m : Int) * (-1)).toNat]?) = l.map fun m => xs.toList.getD (xs.size - 1 - m) default := fun l hl => by
      induction l with
      | nil => rfl
      | cons a r ih =>
        have ha := hl a (List.mem_cons_self ..)
        simp only [] at ha
        rw [List.filterMap_cons, ha, List.map_cons, ih fun m hm => hl m (List.mem_cons_of_mem _ hm)]
    exact this _ hall
  rw [e2, List.getElem?_map]
  by_cases hi : i < xs.size - k
  · rw [List.getElem?_range hi, List.getElem?_reverse (by simpa using hi)]
    simp only [Option.map_some, List.length_drop, Array.length_toList]
    rw [List.getElem?_drop, List.getD_eq_getElem?_getD, List.getElem?_eq_getElem (by simp; omega), List.getElem?_eq_getElem (by simp; omega)]
    simp only [Option.getD_some]
    congr 2
    omega
  · rw [List.getElem?_eq_none (by simpa using hi), List.getElem?_eq_none (by simpa using hi)]
    rfl
section
variable {prog : Program} {w : World} {A : Around} {E : Value → Shared → Prop} {s : Shared}
theorem sliceApplied_rev {sl : Addr} {vu vs : Value} {hi : Option Int} {n k : Nat} {Q : Int × Int × Nat → Shared → Prop} (hs : s.heap.IsSliceOf sl .none vu vs) (pu : IsPart vu hi) (ps : IsPart vs (some (-1))) (hk : (hi = none ∧ k = 0) ∨ (hi = some 0 ∧ k = 1))
    (h : Q ((n : Int) - 1, -1, n - k) s) : wpAny (model prog w) A (Builtin.Slice.sliceApplied (.ref sl) (pure (n : Int))) Q E s := by
  obtain ⟨os, hos, hcs, hds⟩ := id hs
  unfold Builtin.Slice.sliceApplied Builtin.Slice.sliceFields
  refine wpAny_bind (wpAny_bind (wpAny_field hos hds (x := .none) rfl (wpAny_bind (wpAny_field hos hds (x := vu) rfl (wpAny_bind (wpAny_field hos hds (x := vs) rfl (wpAny_pure ?_)))))))
  refine wpAny_bind (HT.slicePart_ ps ?_)
  show wpAny _ _ (if ((-1 : Int) == 0) = true then _ else _) _ _ s
  rw [if_neg (by decide)]
  refine wpAny_bind (HT.slicePart_ .none (wpAny_bind (HT.slicePart_ pu (wpAny_bind (wpAny_pure ?_)))))
  show wpAny _ _ (match Builtin.Slice.sliceAdjust none hi (-1) (n : Int) with | (lo, hi) => pure (lo, (-1 : Int), Builtin.Slice.slicePlaces lo hi (-1))) _ _ s
  have e : Builtin.Slice.sliceAdjust none hi (-1) (n : Int) = ((n : Int) - 1, if hi = none then -1 else min 0 ((n : Int) - 1)) := by
    unfold Builtin.Slice.sliceAdjust
    rcases hk with ⟨rfl, _⟩ | ⟨rfl, _⟩ <;> simp
  rw [e]
  have e2 : Builtin.Slice.slicePlaces ((n : Int) - 1) (if hi = none then -1 else min 0 ((n : Int) - 1)) (-1) = n - k := by
    unfold Builtin.Slice.slicePlaces
    rw [if_neg (by decide)]
    rcases hk with ⟨rfl, rfl⟩ | ⟨rfl, rfl⟩
    · simp; split <;> omega
    · have e3 : (if (some (0 : Int)) = none then (-1 : Int) else min 0 ((n : Int) - 1)) = min 0 ((n : Int) - 1) := if_neg (by simp)
      rw [e3]
      have e4 : ∀ z : Int, z / (-(-1)) = z := fun z => Int.ediv_one z
      rw [e4]
      split <;> omega
  show wpAny _ _ (pure ((n : Int) - 1, (-1 : Int), Builtin.Slice.slicePlaces ((n : Int) - 1) (if hi = none then -1 else min 0 ((n : Int) - 1)) (-1))) _ _ s
  rw [e2]
  exact wpAny_pure h
theorem getItem_tuple_rev {t sl : Addr} {items : Array Value} {vu vs : Value} {hi : Option Int} {k : Nat} {Q : Value → Shared → Prop} (ht : PyProof.Rows.IsTup s.heap t items) (hs : s.heap.IsSliceOf sl .none vu vs) (pu : IsPart vu hi) (ps : IsPart vs (some (-1))) (hk : (hi = none ∧ k = 0) ∨ (hi = some 0 ∧ k = 1))
    (h : Q (.ref s.heap.objs.size) { s with heap := s.heap.push { cls := .type "tuple", data := .seq (items.toList.drop k).reverse.toArray } })
    (hsz : items.size ≤ sizeLine) : wpAny (model prog w) A (getItem (.ref t) (.ref sl)) Q E s := by
  have htake : sizeOk (.seq (items.toList.drop k).reverse.toArray) := by
    show (items.toList.drop k).reverse.toArray.size ≤ sizeLine
    rw [List.size_toArray, List.length_reverse, List.length_drop, Array.length_toList]
    omega
  obtain ⟨os, hos, hcs, hds⟩ := id hs
  have hTs : s.TypeIs (.ref sl) "slice" := ⟨os, hos, hcs⟩
  unfold getItem
  try with_reducible refine wpAny_holding ?_
  first | refine wpAny_bind (wpAny_pure ?_) | skip
  refine wpAny_bind (wpAny_sequenceKey ht.typeIs (by decide) ?_)
  refine wpAny_bind (wpAny_callSpecial?_slot (name := Str.ofString "__getitem__") ht.typeIs PyProof.Rows.slot_tuple_getitem
    (wpAny_call_entry PyProof.Rows.slot_tuple_getitem ht.typeIs PyProof.Rows.entry_tuple_getitem ?_ (PyProof.Rows.args_tuple_getitem _ _)))
  show wpAny _ _ (Builtin.Tuple.tupleItemsOf (.ref t) >>= _) _ _ s
  refine wpAny_bind (PyProof.Rows.tupleItemsOf_ ht ?_)
  refine wpAny_bind (wpAny_typeOf hTs ?_)
  rw [if_pos (by decide)]
  refine wpAny_bind (sliceApplied_rev (n := items.size) hs pu ps hk ?_)
  have hno : ¬ ((((items.size : Int) - 1) == 0 && (-1 : Int) == 1 && (items.size - k) == items.size) = true) := by simp
  show wpAny _ _ (if ((((items.size : Int) - 1) == 0 && (-1 : Int) == 1 && (items.size - k) == items.size) = true) then _ else _) _ _ s
  rw [if_neg hno, rev_pick rfl]
  first
    | exact wpAny_bind (m := Builtin.Tuple.tupleExact _) (wpAny_newObj_type (wpAny_pure ⟨_, rfl, wpAny_pure h⟩) htake)
    | exact wpAny_bind (m := Builtin.Tuple.tupleExact _) (wpAny_newObj_type (wpAny_bind (wpAny_pure (wpAny_pure ⟨_, rfl, wpAny_pure h⟩))) htake)
    | exact wpAny_bind (wpAny_bind (m := Builtin.Tuple.tupleExact _) (wpAny_newObj_type (wpAny_pure (wpAny_pure ⟨_, rfl, wpAny_pure h⟩)) htake))
    | exact wpAny_bind (wpAny_bind (m := Builtin.Tuple.tupleExact _) (wpAny_newObj_type (wpAny_pure ⟨_, rfl, wpAny_pure h⟩) htake))
end
def tRevS (K : PySem.W.Frag) (kk : Nat) (te : TE) : TE := fun σ H Q => te σ H fun x H1 => ∃ a xs, x = .ref a ∧ ((SqT K H1 a xs ∧ ∀ p, H1 p = none → Q (.ref p) (upd H1 p (.tup (xs.drop kk).reverse))) ∨ (kk = 0 ∧ SqL K H1 a xs ∧ ∀ p, H1 p = none → Q (.ref p) (upd H1 p (.lst xs.reverse))))
theorem vals_drop : ∀ {xs : List V} {us : List Value} (n : Nat), Vals xs us → Vals (xs.drop n) (us.drop n)
  | _, _, 0, h => h
  | _, _, n + 1, .nil => .nil
  | _, _, n + 1, .cons _ t => vals_drop n t
theorem pe_revS {e : Expr} {te : TE} {hi : Option Expr} {tph : TO} {ho : Option Int} {kk k : Nat} {p1 p2 p3 pos : Pos} (he : PE X e te) (hp : PO X hi tph) (hq : ∀ σ H, tph σ H fun o H2 => o = ho ∧ H2 = H) (hk : (ho = none ∧ kk = 0) ∨ (ho = some 0 ∧ kk = 1)) :
    PE X (.Subscript e (.Slice none hi (some (.UnaryOp .USub (.Constant (.int 1) k p1) p2)) p3) pos) (tRevS X.K kk te) := by
  refine ⟨fun pins s σ H Q I h => ?_⟩
  refine PyProof.Rows.Subscript_ (thn (he.run pins s σ H _ I h) fun v s1 ⟨x, H1, I1, r1, q1⟩ => ?_)
  obtain ⟨a, xs, ex, hx⟩ := q1
  subst ex
  cases r1
  have hst : PO X (some (.UnaryOp .USub (.Constant (.int 1) k p1) p2)) (tPart (tUn (rU fun i => .int (-i)) (tC (.int 1)))) := po_some (pe_un un_neg pe_int)
  refine wpAny_Slice (thn (po_none.run pins s1 σ H1 (fun o H2 => o = none ∧ H2 = H1) I1 ⟨rfl, rfl⟩) fun vl s2 ⟨l, H2, I2, pl, el, e2⟩ => ?_)
  subst el e2
  refine thn (hp.run pins s2 σ H2 (fun o H3 => o = ho ∧ H3 = H2) I2 (hq σ H2)) fun vu s3 ⟨u, H3, I3, pu, eu, e3⟩ => ?_
  subst eu e3
  refine thn (hst.run pins s3 σ H3 (fun o H4 => o = some (-1) ∧ H4 = H3) I3 ⟨1, rfl, -1, rfl, rfl, rfl⟩) fun vs s4 ⟨o, H4, I4, ps, eo, e4⟩ => ?_
  subst eo e4
  have I5 : Inv X pins σ H4 { s4 with heap := s4.heap.push { cls := .type "slice", data := .fields #[vl, vu, vs] } } := I4.kept (t' := s4.toks) fun b ob q => Heap.get?_push_of_some _ q
  have evl : vl = .none := by cases pl; rfl
  subst evl
  show wpAny (model X.prog X.w) X.A (PyProof.Rows.subscriptTail e (.Slice none hi (some (.UnaryOp .USub (.Constant (.int 1) k p1) p2)) p3) (.ref a) (.ref s4.heap.objs.size)) (EP X pins σ Q) X.xe { s4 with heap := s4.heap.push { cls := .type "slice", data := .fields #[.none, vu, vs] } }
  rcases hx with ⟨hx, q⟩ | ⟨hk0, hx, q⟩
  · obtain ⟨its, r, ht, hz⟩ := I5.tuple hx
    have hlen := r.length
    refine PyProof.Rows.tail_any (ops := [.ref a, .ref s4.heap.objs.size]) ht.typeIs (PyProof.Rows.slot_tuple_getitem.lookup) ?_ (by with_unfolding_all rfl)
    refine getItem_tuple_rev ht (Heap.IsSliceOf.new _ _ vu vs) pu ps hk ?_ (by rw [List.size_toArray]; omega)
    refine ⟨.ref _, _, I5.laid (t' := s4.toks) (o := .tup (xs.drop kk).reverse) (fun b ob q => Heap.get?_push_of_some _ q) (Nat.le_refl _) ?_, rfl, q _ (I5.hok.fresh (Nat.le_refl _))⟩
    exact ⟨by rw [List.length_reverse, List.length_drop]; omega, _, (vals_drop kk r).reverse, PyProof.Rows.IsTup.new _ _⟩
  · subst hk0
    have eho : u = none := by rcases hk with ⟨h, _⟩ | ⟨_, h⟩ <;> first | exact h | cases h
    subst eho
    obtain ⟨its, r, ht, hz⟩ := I5.list hx
    have hlen := r.length
    refine PyProof.Rows.tail_any (ops := [.ref a, .ref s4.heap.objs.size]) ht.isList.typeIs (PySem.slot_list_getitem.lookup) ?_ (by with_unfolding_all rfl)
    refine wpAny_getItem_list_slice ht.isList (Heap.IsSliceOf.new _ _ vu vs) .none pu ps (by decide) ?_ (by rw [List.size_toArray]; omega)
    have evu : vu = .none := by cases pu; rfl
    rw [PySem.W.krv_pick]
    refine ⟨.ref _, _, I5.laid (t' := s4.toks) (o := .lst xs.reverse) (fun b ob q => Heap.get?_push_of_some _ q) (Nat.le_refl _) ?_, rfl, q _ (I5.hok.fresh (Nat.le_refl _))⟩
    exact ⟨by rw [List.length_reverse]; exact hz, _, 0, r.reverse, Heap.get?_push_size _ rfl⟩
def fRev (kk : Nat) (x : D) (S : Sto) : Rs D := match x with
  | .tup xs => .ok (.tup (xs.drop kk).reverse) S
  | .ref n => (match S[n]?, kk with
    | some (.lst xs), 0 => .ok (.ref S.length) (S ++ [.lst xs.reverse])
    | _, _ => .bad)
  | _ => .bad
theorem rev_read {e : Expr} {m : En → Sto → Rs D} {kk : Nat} {σ : St} {H : Hp} {Q : VK} (q : lE (gX X) W (m1 (fRev kk) m) σ H Q) : tRevS X.K kk (lE (gX X) W m) σ H Q := by
  obtain ⟨pp, S, E, hs, he, q⟩ := q
  refine lE_step hs he (post_mono (fun d S1 p1 H1 x1 hs1 q1 v rv => ?_) (post_bind q))
  unfold fRev at q1
  split at q1
  · obtain ⟨a, vs, rfl, e, rs⟩ := rv
    exact ⟨a, vs, rfl, .inl ⟨e, fun l hl => new_tup hs1 (rs.drop kk).reverse q1 hl⟩⟩
  · rename_i n
    obtain ⟨a, ea, rfl⟩ := rv
    split at q1
    · rename_i ds hd
      obtain ⟨us, ex, rs⟩ := lst_at hs1 ea hd
      exact ⟨a, us, rfl, .inr ⟨rfl, .of ex, fun l hl => new_obj hs1 (o := .lst _) ⟨_, rfl, rs.reverse⟩ q1 hl⟩⟩
    · exact q1.elim
  · exact q1.elim
theorem me_rev {e : Expr} {m : En → Sto → Rs D} {k : Nat} {p1 p2 p3 pos : Pos} (he : ME X W e m) : ME X W (.Subscript e (.Slice none none (some (.UnaryOp .USub (.Constant (.int 1) k p1) p2)) p3) pos) (m1 (fRev 0) m) :=
  PE.imp (pe_revS (kk := 0) (ho := none) he po_none (fun σ H => ⟨rfl, rfl⟩) (.inl ⟨rfl, rfl⟩)) fun σ H Q q => rev_read (e := e) q
theorem me_rev0 {e : Expr} {m : En → Sto → Rs D} {k k2 : Nat} {p1 p2 p3 p4 pos : Pos} (he : ME X W e m) : ME X W (.Subscript e (.Slice none (some (.Constant (.int 0) k2 p4)) (some (.UnaryOp .USub (.Constant (.int 1) k p1) p2)) p3) pos) (m1 (fRev 1) m) :=
  PE.imp (pe_revS (kk := 1) (ho := some 0) he (po_some pe_int) (fun σ H => ⟨0, rfl, rfl, rfl⟩) (.inr ⟨rfl, rfl⟩)) fun σ H Q q => rev_read (e := e) q
end
end M

namespace M
open PySem L2
section
variable {X : Cx} {W : XW}
/-! ### a comprehension with two fors: the list stands in the store -/
open Classical in
noncomputable def lpL (g : Sto → Prop) (body : D → Sto → Rs Unit) : List D → Sto → Rs Unit
  | [], S => if g S then .ok () S else .bad
  | d :: r, S => if g S then (noX (body d S)).bind fun _ S1 => lpL g body r S1 else .bad
open Classical in
theorem lpL_nil {g : Sto → Prop} {body : D → Sto → Rs Unit} {S : Sto} : lpL g body [] S = if g S then .ok () S else .bad := rfl
open Classical in
theorem lpL_cons {g : Sto → Prop} {body : D → Sto → Rs Unit} {d : D} {r : List D} {S : Sto} : lpL g body (d :: r) S = if g S then (noX (body d S)).bind fun _ S1 => lpL g body r S1 else .bad := rfl
def apn (n : Nat) (y : D) (S : Sto) : Rs Unit := match S[n]? with
  | some (.lst ds) => if ds.length < sizeLine then .ok () (S.set n (.lst (ds ++ [y]))) else .bad
  | _ => .bad
theorem apn_or (n : Nat) (y : D) (S : Sto) : apn n y S = .bad ∨ ∃ ds, S[n]? = some (.lst ds) ∧ ds.length < sizeLine ∧ apn n y S = .ok () (S.set n (.lst (ds ++ [y]))) := by
  unfold apn
  split
  · rename_i ds hd
    by_cases hz : ds.length < sizeLine
    · exact .inr ⟨ds, hd, hz, if_pos hz⟩
    · exact .inl (if_neg hz)
  · exact .inl rfl
def bd1 (n : Nat) (vs1 : List Nat) (g1 : D → En → Sto → Rs En) (t1 : En → Sto → Rs Bool) (m : En → Sto → Rs D) (E1 : En) : D → Sto → Rs Unit := fun d S =>
  (g1 d (wipeE vs1 E1) S).bind fun E2 S1 => (t1 E2 S1).bind fun b S2 => if b = true then (m E2 S2).bind fun y S3 => apn n y S3 else .ok () S2
noncomputable def bd2 (n : Nat) (vs : List Nat) (g : D → En → Sto → Rs En) (t : En → Sto → Rs Bool) (mi1 : En → Sto → Rs AI) (vs1 : List Nat) (g1 : D → En → Sto → Rs En) (t1 : En → Sto → Rs Bool) (m : En → Sto → Rs D) (E : En) : D → Sto → Rs Unit := fun d S =>
  (g d (wipeE vs E) S).bind fun E1 S1 => (t E1 S1).bind fun b S2 => if b = true then (mi1 E1 S2).bind fun ai S3 => (match ai.lk with
    | none => lpL ai.g (bd1 n vs1 g1 t1 m E1) ai.items S3
    | some _ => .bad) else .ok () S2
noncomputable def mLc2 (mi : En → Sto → Rs AI) (vs : List Nat) (g : D → En → Sto → Rs En) (t : En → Sto → Rs Bool) (mi1 : En → Sto → Rs AI) (vs1 : List Nat) (g1 : D → En → Sto → Rs En) (t1 : En → Sto → Rs Bool) (m : En → Sto → Rs D) : En → Sto → Rs D := fun E S => (mi E S).bind fun ai S1 =>
  (lpL ai.g (bd2 S1.length vs g t mi1 vs1 g1 t1 m E) ai.items (lockS ai.lk S1 ++ [.lst []])).bind fun _ S2 => unl ai.lk (.ref S1.length) S2
/-- a walk without a lock -/
def lI1 (X : Cx) (W : XW) (m : En → Sto → Rs AI) : TI := fun σ H R => ∃ p S E, RS (gX X) p S H ∧ RE (gX X) p H E σ ∧ post (gX X) W p H (m E S) fun ai S' p' H' => ai.lk = none ∧ ∀ J, WD X p' H' J ai → R J H'
theorem pi_one {Y : Cx} {tg iter : Expr} {mi : En → Sto → Rs AI} (hY : gX Y = gX X) (h : MI Y W0 tg iter mi) : PI Y tg iter (lI1 X W0 mi) :=
  PI.imp h fun σ H R q => by
    obtain ⟨p, S, E, hs, he, q⟩ := q
    refine ⟨p, S, E, by rw [hY]; exact hs, by rw [hY]; exact he, ?_⟩
    rw [hY]
    refine post_mono (fun ai S1 p1 H1 x1 hs1 q1 J H2 lk wd => ?_) q
    obtain ⟨hlk, q1⟩ := q1
    rw [hlk] at lk
    cases lk
    refine q1 J ⟨?_, ?_, ?_⟩
    · rw [← hY]; exact wd.go
    · rw [← hY]; exact wd.stop
    · rw [← hY]; exact wd.yld
theorem lock_len {lk : Option Nat} {S : Sto} : (lockS lk S).length = S.length := by
  unfold lockS
  split
  · rfl
  · split <;> simp
theorem lc2_read {mi mi1 : En → Sto → Rs AI} {vs vs1 : List Nat} {g g1 : D → En → Sto → Rs En} {t t1 : En → Sto → Rs Bool} {m : En → Sto → Rs D} {σ : St} {H : Hp} {Q : VK} (q : lE (gX X) W (mLc2 mi vs g t mi1 vs1 g1 t1 m) σ H Q) :
    tLc2 (lI X W mi) (lGo (gX X) W0 vs g) (lT (gX X) W0 t) (lI1 X W0 mi1) (lGo (gX X) W0 vs1 g1) (lT (gX X) W0 t1) (lE (gX X) W0 m) vs vs1 σ H fun v H' => ∃ H4, Un X H' H4 ∧ Q v H4 := by
  obtain ⟨p, S, E, hs, he, q⟩ := q
  refine ⟨p, S, E, hs, he, post_mono (fun ai S1 p1 H1 x1 hs1 q1 J H2 lk wd D hD => ?_) (post_bind q)⟩
  have hs2 := lk.rs hs1
  have x2 := lk.ext
  have hlen : (lockS ai.lk S1).length = S1.length := lock_len
  generalize lockS ai.lk S1 = S2 at lk hs2 q1 hlen
  have hp1 : p1.length = S1.length := hs1.len
  have he2 : RE (gX X) p1 H2 (wipeE vs E) (wipe σ vs) := ((he.mono x1.pre x1.tup).mono x2.pre x2.tup).wipe vs
  have xD : Ext (gX X) p1 H2 (p1 ++ [D]) (upd H2 D (.lst [])) := Ext.alloc hD
  have hsD : RS (gX X) (p1 ++ [D]) (S2 ++ [.lst []]) (upd H2 D (.lst [])) := hs2.alloc hD ⟨[], rfl, rfl⟩
  have hpD : (p1 ++ [D])[S1.length]? = some D := by rw [← hp1]; simp
  refine ⟨fun i n H => ∃ p3 S3, n = ai.items.length - i ∧ i ≤ ai.items.length ∧ p3[S1.length]? = some D ∧ Ext (gX X) p1 H2 p3 H ∧ RS (gX X) p3 S3 H ∧
    post (gX X) W p1 H1 (lpL ai.g (bd2 S1.length vs g t mi1 vs1 g1 t1 m E) (ai.items.drop i) S3) (fun _ S' _ _ => post (gX X) W p1 H1 (unl ai.lk (.ref S1.length) S') (kE (gX X) Q)),
    ⟨ai.items.length, p1 ++ [D], S2 ++ [.lst []], by simp, Nat.zero_le _, hpD, xD, hsD, by simpa using post_bindB q1⟩, ?_⟩
  rintro i n H3 ⟨p3, S3, rfl, hi, hD3, x3, hs3, q3⟩
  by_cases hlt : i < ai.items.length
  · have hd : ai.items[i]? = some ai.items[i] := by simp [hlt]
    rw [List.drop_eq_getElem_cons hlt, lpL_cons] at q3
    split at q3
    · rename_i hG
      refine .inr ⟨wd.go i p3 S3 H3 x3 hs3 hG hlt, fun H => ∃ p3 S3, ai.items.length - (i + 1) = ai.items.length - (i + 1) ∧ i + 1 ≤ ai.items.length ∧ p3[S1.length]? = some D ∧ Ext (gX X) p1 H2 p3 H ∧ RS (gX X) p3 S3 H ∧
        post (gX X) W p1 H1 (lpL ai.g (bd2 S1.length vs g t mi1 vs1 g1 t1 m E) (ai.items.drop (i + 1)) S3) (fun _ S' _ _ => post (gX X) W p1 H1 (unl ai.lk (.ref S1.length) S') (kE (gX X) Q)), fun H' w => ⟨ai.items.length - (i + 1), by omega, w⟩, fun x H4 y => ?_⟩
      obtain ⟨x4, hs4, rx⟩ := wd.yld i p3 S3 H3 x H4 _ x3 hs3 hG hd y
      have x04 : Ext (gX X) p1 H1 p3 H4 := (x2.trans x3).trans x4
      have x24 := x3.trans x4
      have q4 := post_noX (post_bindB q3)
      unfold bd2 at q4
      refine ⟨p3, S3, wipeE vs E, ai.items[i], hs4, he2.mono x24.pre x24.tup, rx, post_mono (fun E5 S5 p5 H5 x5 hs5 q5 σ5 he5 w5 => ⟨by rw [w5, wipe_idem], ?_⟩) (post_base x04 (post_bindB q4))⟩
      have x05 := x04.trans x5
      refine ⟨p5, S5, E5, hs5, he5, post_mono (fun b S6 p6 H6 x6 hs6 q6 => ?_) (post_base x05 (post_bindB q5))⟩
      have x06 := x05.trans x6
      have x26 := (x24.trans x5).trans x6
      have hD6 : p6[S1.length]? = some D := x6.pre.get (x5.pre.get hD3)
      cases b with
      | true =>
        have q6 := q6
        simp only [if_true] at q6
        refine ⟨p6, S6, E5, hs6, he5.mono x6.pre x6.tup, post_mono (fun ai1 S7 p7 H7 x7 hs7 q7 => ?_) (post_base x06 (post_bindB q6))⟩
        have x07 := x06.trans x7
        have x27 := x26.trans x7
        have hD7 := x7.pre.get hD6
        have he7 : RE (gX X) p7 H7 (wipeE vs1 E5) (wipe σ5 vs1) := ((he5.mono x6.pre x6.tup).mono x7.pre x7.tup).wipe vs1
        split at q7
        · rename_i hlk
          refine ⟨hlk, fun J1 wd1 => ?_⟩
          refine ⟨fun j k H => ∃ p8 S8, k = ai1.items.length - j ∧ j ≤ ai1.items.length ∧ p8[S1.length]? = some D ∧ Ext (gX X) p7 H7 p8 H ∧ RS (gX X) p8 S8 H ∧
            post (gX X) W0 p1 H1 (lpL ai1.g (bd1 S1.length vs1 g1 t1 m E5) (ai1.items.drop j) S8) (fun _ S' _ _ => post (gX X) W p1 H1 (lpL ai.g (bd2 S1.length vs g t mi1 vs1 g1 t1 m E) (ai.items.drop (i + 1)) S') (fun _ S' _ _ => post (gX X) W p1 H1 (unl ai.lk (.ref S1.length) S') (kE (gX X) Q))),
            ⟨ai1.items.length, p7, S7, by simp, Nat.zero_le _, hD7, Ext.refl _ _, hs7, by
              rw [List.drop_zero]
              exact q7⟩, ?_⟩
          rintro j k H8 ⟨p8, S8, rfl, hj, hD8, x8, hs8, q8⟩
          have x08 := x07.trans x8
          have x28 := x27.trans x8
          by_cases hlt1 : j < ai1.items.length
          · have hd1 : ai1.items[j]? = some ai1.items[j] := by simp [hlt1]
            rw [List.drop_eq_getElem_cons hlt1, lpL_cons] at q8
            split at q8
            · rename_i hG1
              refine .inr ⟨wd1.go j p8 S8 H8 x8 hs8 hG1 hlt1, fun H => ∃ p8 S8, ai1.items.length - (j + 1) = ai1.items.length - (j + 1) ∧ j + 1 ≤ ai1.items.length ∧ p8[S1.length]? = some D ∧ Ext (gX X) p7 H7 p8 H ∧ RS (gX X) p8 S8 H ∧
                post (gX X) W0 p1 H1 (lpL ai1.g (bd1 S1.length vs1 g1 t1 m E5) (ai1.items.drop (j + 1)) S8) (fun _ S' _ _ => post (gX X) W p1 H1 (lpL ai.g (bd2 S1.length vs g t mi1 vs1 g1 t1 m E) (ai.items.drop (i + 1)) S') (fun _ S' _ _ => post (gX X) W p1 H1 (unl ai.lk (.ref S1.length) S') (kE (gX X) Q))), fun H' w => ⟨ai1.items.length - (j + 1), by omega, w⟩, fun x H9 y => ?_⟩
              obtain ⟨x9, hs9, rx9⟩ := wd1.yld j p8 S8 H8 x H9 _ x8 hs8 hG1 hd1 y
              have q9 := post_noX (post_bindB q8)
              have x89 := x8.trans x9
              have x09 := x08.trans x9
              unfold bd1 at q9
              refine ⟨p8, S8, wipeE vs1 E5, ai1.items[j], hs9, he7.mono x89.pre x89.tup, rx9, post_mono (fun Ea Sa pa Ha xa hsa qa σa hea wa => ⟨by rw [wa, wipe_idem], ?_⟩) (post_base x09 (post_bindB q9))⟩
              have x0a := x09.trans xa
              refine ⟨pa, Sa, Ea, hsa, hea, post_mono (fun bb Sb pb Hb xb hsb qb => ?_) (post_base x0a (post_bindB qa))⟩
              have x0b := x0a.trans xb
              have x7b := (x89.trans xa).trans xb
              have hDb := xb.pre.get (xa.pre.get hD8)
              cases bb with
              | true =>
                have qb := qb
                simp only [if_true] at qb
                refine ⟨pb, Sb, Ea, hsb, hea.mono xb.pre xb.tup, post_mono (fun y Sc pc Hc xc hsc qc v rv => ?_) (post_base x0b (post_bindB qb))⟩
                have x0c := x0b.trans xc
                have x7c := x7b.trans xc
                have hDc := xc.pre.get hDb
                rcases apn_or S1.length y Sc with e | ⟨ds, hds, hz, e⟩
                · rw [e] at qc
                  exact qc.elim
                · rw [e] at qc
                  obtain ⟨zz, ez, us, rfl, rs⟩ := hsc.get _ D _ hDc hds
                  have xe : Ext (gX X) pc Hc pc (upd Hc D (.lst (us ++ [v]))) := Ext.set (mem_of_get hDc) ez (.inl rfl) (fun _ _ z => by cases z)
                  have hse : RS (gX X) pc (Sc.set S1.length (.lst (ds ++ [y]))) (upd Hc D (.lst (us ++ [v]))) := hsc.set hDc hds ez (.inl rfl) ⟨_, rfl, rs.append (.one rv)⟩
                  have hz' : us.length < sizeLine := by rw [← rs.length]; exact hz
                  exact ⟨us, ez, hz', pc, _, rfl, hlt1, hDc, x7c.trans xe, hse, qc pc _ (x0c.trans xe) hse⟩
              | false =>
                exact ⟨pb, Sb, rfl, hlt1, hDb, x7b, hsb, qb pb Hb x0b hsb⟩
            · exact q8.elim
          · have hj' : j = ai1.items.length := by omega
            subst hj'
            rw [List.drop_length, lpL_nil] at q8
            split at q8
            · rename_i hG1
              exact .inl ⟨wd1.stop p8 S8 H8 x8 hs8 hG1, p8, S8, rfl, hlt, hD8, x28, hs8, q8 p8 H8 x08 hs8⟩
            · exact q8.elim
        · exact q7.elim
      | false =>
        exact ⟨p6, S6, rfl, hlt, hD6, x26, hs6, q6 p6 H6 x06 hs6⟩
    · exact q3.elim
  · have hi' : i = ai.items.length := by omega
    subst hi'
    rw [List.drop_length, lpL_nil] at q3
    split at q3
    · rename_i hG
      obtain ⟨H7, S7, un, x7, hs7, k7, q7⟩ := unl_read lk x3 hs3 (q3 p3 H3 (x2.trans x3) hs3)
      exact .inl ⟨wd.stop p3 S3 H3 x3 hs3 hG, _, un, q7 (.ref D) ⟨D, hD3, rfl⟩⟩
    · exact q3.elim
theorem me_lc2 {elt tg iter tg1 iter1 : Expr} {ifs ifs1 : List Expr} {scope : Scope} {own : List (Str × Nat)} {vs1 : List Nat} {pos : Pos} {mi mi1 : En → Sto → Rs AI} {g g1 : D → En → Sto → Rs En} {t t1 : En → Sto → Rs Bool} {m : En → Sto → Rs D} (hc : X.calm = true) (hN : X.N.Nodup) (hi : MI X W tg iter mi) (ok : BlkOk X.N X.env.scope scope own) (hv : ∀ i ∈ vs1, i ∈ own.map (·.2))
    (hg : ∀ (s : Shared) (H : Hp) (C : Addr) (cl : List (Str × Addr)) (fp : List Addr), MGo (X.blk s H scope (compEnvC scope cl C X.env) fp) W0 (own.map (·.2)) tg g) (ht : ∀ (s : Shared) (H : Hp) (C : Addr) (cl : List (Str × Addr)) (fp : List Addr), MTs (X.blk s H scope (compEnvC scope cl C X.env) fp) W0 ifs t)
    (hi1 : ∀ (s : Shared) (H : Hp) (C : Addr) (cl : List (Str × Addr)) (fp : List Addr), MI (X.blk s H scope (compEnvC scope cl C X.env) fp) W0 tg1 iter1 mi1)
    (hg1 : ∀ (s : Shared) (H : Hp) (C : Addr) (cl : List (Str × Addr)) (fp : List Addr), MGo (X.blk s H scope (compEnvC scope cl C X.env) fp) W0 vs1 tg1 g1) (ht1 : ∀ (s : Shared) (H : Hp) (C : Addr) (cl : List (Str × Addr)) (fp : List Addr), MTs (X.blk s H scope (compEnvC scope cl C X.env) fp) W0 ifs1 t1)
    (he : ∀ (s : Shared) (H : Hp) (C : Addr) (cl : List (Str × Addr)) (fp : List Addr), ME (X.blk s H scope (compEnvC scope cl C X.env) fp) W0 elt m) (hs : ∀ x, foldedSetIterable iter X.env x = pure x := by intro _; rfl) (hs1 : ∀ env x, foldedSetIterable iter1 env x = pure x := by intro _ _; rfl) :
    ME X W (.ListComp elt [⟨tg, iter, ifs, 0⟩, ⟨tg1, iter1, ifs1, 0⟩] scope pos) (mLc2 mi (own.map (·.2)) g t mi1 vs1 g1 t1 m) :=
  PE.imp (pe_unl (pe_lc2 hc hN hi ok hv hg ht (fun s H C cl fp => pi_one (X := X) rfl (hi1 s H C cl fp)) hg1 ht1 he hs hs1)) fun _ _ _ q => lc2_read q
theorem ms_setLc2 {i : Nat} {y : Str} {py spos : Pos} {elt tg iter tg1 iter1 : Expr} {ifs ifs1 : List Expr} {scope : Scope} {own : List (Str × Nat)} {vs1 : List Nat} {pos : Pos} {mi mi1 : En → Sto → Rs AI} {g g1 : D → En → Sto → Rs En} {t t1 : En → Sto → Rs Bool} {m : En → Sto → Rs D} (hc : X.calm = true) (hN : X.N.Nodup) (hy : X.N[i]? = some y) (hyl : X.env.scope.names.lookup y = some .local)
    (hsw : swapsWith (.ListComp elt [⟨tg, iter, ifs, 0⟩, ⟨tg1, iter1, ifs1, 0⟩] scope pos) (some (.Name y py)) spos.line X.env = pure true) (hi : MI X W tg iter mi) (ok : BlkOk X.N X.env.scope scope own) (hv : ∀ i ∈ vs1, i ∈ own.map (·.2))
    (hg : ∀ (s : Shared) (H : Hp) (C : Addr) (cl : List (Str × Addr)) (fp : List Addr), MGo (X.blk s H scope (compEnvC scope cl C X.env) fp) W0 (own.map (·.2)) tg g) (ht : ∀ (s : Shared) (H : Hp) (C : Addr) (cl : List (Str × Addr)) (fp : List Addr), MTs (X.blk s H scope (compEnvC scope cl C X.env) fp) W0 ifs t)
    (hi1 : ∀ (s : Shared) (H : Hp) (C : Addr) (cl : List (Str × Addr)) (fp : List Addr), MI (X.blk s H scope (compEnvC scope cl C X.env) fp) W0 tg1 iter1 mi1)
    (hg1 : ∀ (s : Shared) (H : Hp) (C : Addr) (cl : List (Str × Addr)) (fp : List Addr), MGo (X.blk s H scope (compEnvC scope cl C X.env) fp) W0 vs1 tg1 g1) (ht1 : ∀ (s : Shared) (H : Hp) (C : Addr) (cl : List (Str × Addr)) (fp : List Addr), MTs (X.blk s H scope (compEnvC scope cl C X.env) fp) W0 ifs1 t1)
    (he : ∀ (s : Shared) (H : Hp) (C : Addr) (cl : List (Str × Addr)) (fp : List Addr), ME (X.blk s H scope (compEnvC scope cl C X.env) fp) W0 elt m) (hs : ∀ x, foldedSetIterable iter X.env x = pure x := by intro _; rfl) (hs1 : ∀ env x, foldedSetIterable iter1 env x = pure x := by intro _ _; rfl) :
    MS X W (.Assign [.Name y py] (.ListComp elt [⟨tg, iter, ifs, 0⟩, ⟨tg1, iter1, ifs1, 0⟩] scope pos) spos) (sAsg (mLc2 mi (own.map (·.2)) g t mi1 vs1 g1 t1 m) (gN i)) :=
  PS.imp (ps_unl (ps_setLc2 hc hN hy hyl hsw hi ok hv hg ht (fun s H C cl fp => pi_one (X := X) rfl (hi1 s H C cl fp)) hg1 ht1 he hs hs1)) fun Z σ H q => by
    obtain ⟨p, S, E, hs, he, q⟩ := q
    refine lc2_read (mi := mi) (g := g) (t := t) (mi1 := mi1) (g1 := g1) (t1 := t1) (m := m) (Q := fun v H4 => Z.nx (σ.set i (some v)) H4) ?_
    refine lE_step hs he (post_mono (fun d S1 p1 H1 x1 hs1 q1 v rv => ?_) (post_bind q))
    exact post_ok q1 hs1 _ ((he.mono x1.pre x1.tup).set rv)
end
end M

/-! zip(x, y, strict=True) over two iterators of any kind that end together -/
namespace M
open PySem
abbrev IsZipS (h : Heap) (z TI TO : Addr) (f0 : Value) : Prop :=
  h.get? z = some { cls := .type "zip", dict := none, data := .fields #[f0, .bool false, .bool true, .ref TI, .ref TO], slots := #[] }
section
variable {prog : Program} {w : World} {A : Around} {E : Value → Shared → Prop} {s : Shared} {z TI TO i1 i2 : Addr} {fp1 fp2 : List Addr} {n i : Nat} {P1 P2 : Nat → Value → Prop} {St1 St2 : Nat → Heap → Prop} {a1 a2 : Value}
theorem orEnd_item {it : Addr} {Q : Option Value → Shared → Prop} (h : ∀ E', wpAny (model prog w) A (Builtin.SmallTypes.nextOf (.ref it)) (fun v => Q (some v)) E' s) : wpAny (model prog w) A (Builtin.SmallTypes.nextOrEnd (.ref it)) Q E s := by
  unfold Builtin.SmallTypes.nextOrEnd
  exact wpAny_bind (wpAny_attempt (wpAny_mono (h _) (fun v s1 q => wpAny_pure q) fun _ _ e => e))
theorem orEnd_done {it : Addr} {fp : List Addr} {n : Nat} {P : Nat → Value → Prop} {St : Nat → Heap → Prop} {Q : Option Value → Shared → Prop} (D : Draws prog w A it fp n P St) (st : St n s.heap)
    (h : ∀ h', Heap.ExtBut it s.heap h' → Q none { s with heap := h' }) : wpAny (model prog w) A (Builtin.SmallTypes.nextOrEnd (.ref it)) Q E s := by
  unfold Builtin.SmallTypes.nextOrEnd
  refine wpAny_bind (wpAny_attempt (D.done s _ _ st fun h' e hq he => ?_))
  obtain ⟨o, ho, hc⟩ := he
  refine wpAny_bind (wpAny_isInstance (T := "StopIteration") (b := true) ⟨o, ho, hc⟩ isSubtype_stop ?_)
  exact wpAny_pure (h h' hq)
theorem zipS_next_item {Q : Value → Shared → Prop} (S : ZipSep2 z TI TO i1 i2 fp1 fp2) (D1 : Draws prog w A i1 fp1 n P1 St1) (D2 : Draws prog w A i2 fp2 n P2 St2)
    (hz : IsZipS s.heap z TI TO .none) (hTI : IsTupOf2 s.heap TI (.ref i1) (.ref i2)) (hTO : IsTupOf2 s.heap TO a1 a2) (st1 : St1 i s.heap) (st2 : St2 i s.heap) (hlt : i < n)
    (hQ : ∀ x1 x2 h' tk, P1 i x1 → P2 i x2 → IsZipS h' z TI TO (rawInt s.heap.objs.size) → IsTupOf2 h' TO x1 x2 → St1 (i + 1) h' → St2 (i + 1) h' → IsTupOf2 h' s.heap.objs.size x1 x2 → h'.objs.size = s.heap.objs.size + 1 →
      (∀ c o, c ≠ z → c ≠ TO → c ≠ i1 → c ≠ i2 → s.heap.get? c = some o → h'.get? c = some o) → Q (.ref s.heap.objs.size) { s with heap := h', toks := tk }) :
    wpAny (model prog w) A (Builtin.«zip.__next__» ⟨[.ref z], []⟩) (fun fin s' => ∃ v, fin = .done (.ret v) ∧ Q v s') E s := by
  obtain ⟨hp, g, d, tk0, os⟩ := s
  show wpAny _ _ (field (.ref z) 2 >>= _) _ _ _
  refine wpAny_bind (wpAny_field hz rfl (x := .bool true) rfl ?_)
  show wpAny _ _ (field (.ref z) 3 >>= _) _ _ _
  refine wpAny_bind (wpAny_field hz rfl (x := .ref TI) rfl ?_)
  refine wpAny_bind (wpAny_seqItems hTI rfl ?_)
  show wpAny _ _ (Builtin.SmallTypes.ownedTupleIsFree (.ref z) >>= _) _ _ _
  refine wpAny_bind ?_
  unfold Builtin.SmallTypes.ownedTupleIsFree
  refine wpAny_bind (wpAny_field hz rfl (x := .none) rfl (wpAny_pure ?_))
  simp only [if_true]
  refine wpAny_bind (wpAny_rule ?_)
  refine wpAny_bind (wpAny_field hz rfl (x := .ref TO) rfl ?_)
  refine wpAny_bind (wpAny_setField_rec hz (by simp) fun g0 hz0 hs0 => ?_)
  replace hz0 : IsZipS g0 z TI TO .ellipsis := hz0
  replace hs0 : Heap.SameBut z hp g0 := hs0
  refine wpAny_bind ?_
  simp only [List.zipIdx_cons, List.zipIdx_nil, List.forIn_cons, List.forIn_nil]
  refine wpAny_bind (wpAny_bind (wpAny_onRaise ?_))
  show wpAny _ _ (Builtin.SmallTypes.nextOrEnd (.ref i1)) _ _ ⟨g0, g, d, tk0, os⟩
  refine orEnd_item fun E' => D1.item i _ _ _ hlt (D1.over st1 hs0 S.zf1) fun x1 p1 tk1 hx1 sn1 hp1 => ?_
  replace hp1 : Heap.SameBut i1 g0 p1 := hp1
  have hU1 : IsTupOf2 p1 TO a1 a2 := hp1.extBut _ _ S.Ti1 (hs0.extBut _ _ S.TOz hTO)
  refine wpAny_bind (wpAny_seqItems (s := ⟨p1, g, d, tk1, os⟩) hU1 rfl ?_)
  refine wpAny_bind (updateSeq_IsTupOf2 (s := ⟨p1, g, d, tk1, os⟩) hU1 fun g1 hT1 hs1 => ?_)
  replace hT1 : IsTupOf2 g1 TO x1 a2 := hT1
  replace hs1 : Heap.SameBut TO p1 g1 := hs1
  refine wpAny_bind (wpAny_letGo (wpAny_pure ?_))
  refine wpAny_bind (wpAny_bind (wpAny_onRaise ?_))
  show wpAny _ _ (Builtin.SmallTypes.nextOrEnd (.ref i2)) _ _ ⟨g1, g, d, tk1, os⟩
  refine orEnd_item fun E' => D2.item i _ _ _ hlt (D2.over (D2.over (D2.over st2 hs0 S.zf2) hp1 S.sep1_2) hs1 S.Tf2) fun x2 p2 tk2 hx2 sn2 hp2 => ?_
  replace hp2 : Heap.SameBut i2 g1 p2 := hp2
  have hU2 : IsTupOf2 p2 TO x1 a2 := hp2.extBut _ _ S.Ti2 hT1
  refine wpAny_bind (wpAny_seqItems (s := ⟨p2, g, d, tk2, os⟩) hU2 rfl ?_)
  refine wpAny_bind (updateSeq_IsTupOf2 (s := ⟨p2, g, d, tk2, os⟩) hU2 fun g2 hT2 hs2 => ?_)
  replace hT2 : IsTupOf2 g2 TO x1 x2 := hT2
  replace hs2 : Heap.SameBut TO p2 g2 := hs2
  refine wpAny_bind (wpAny_letGo (wpAny_pure (wpAny_pure ?_)))
  refine wpAny_bind (wpAny_seqItems (s := ⟨g2, g, d, tk2, os⟩) hT2 rfl ?_)
  refine wpAny_bind (wpAny_newTuple ?_)
  have hsz : g2.objs.size = hp.objs.size := by rw [hs2.1, hp2.1, hs1.1, hp1.1, hs0.1]
  have hzz : IsZipS g2 z TI TO .ellipsis := (hs2.extBut _ _ S.TOz.symm (hp2.extBut _ _ S.zi2 (hs1.extBut _ _ S.TOz.symm (hp1.extBut _ _ S.zi1 hz0))))
  have hkk : ∀ c o, c ≠ z → c ≠ TO → c ≠ i1 → c ≠ i2 → hp.get? c = some o → g2.get? c = some o := fun c o cz cT c1 c2 e =>
    (hs2.extBut _ _ cT (hp2.extBut _ _ c2 (hs1.extBut _ _ cT (hp1.extBut _ _ c1 (hs0.extBut _ _ cz e)))))
  have hj1 : St1 (i + 1) g2 := (D1.over (D1.over (D1.over sn1 hs1 S.Tf1) hp2 S.sep2_1) hs2 S.Tf1)
  have hj2 : St2 (i + 1) g2 := (D2.over sn2 hs2 S.Tf2)
  have hzlt : z < g2.objs.size := Heap.lt_size hzz
  show wpAny _ _ (Builtin.SmallTypes.ownedTupleHandOut (.ref z) (.ref g2.objs.size) >>= _) _ _ ⟨g2.push { cls := .type "tuple", data := .seq #[x1, x2] }, g, d, tk2, os⟩
  refine wpAny_bind ?_
  unfold Builtin.SmallTypes.ownedTupleHandOut
  have hz6 : IsZipS (g2.push { cls := .type "tuple", data := .seq #[x1, x2] }) z TI TO .ellipsis := Heap.get?_push_of_some _ hzz
  refine wpAny_bind (wpAny_setField_rec hz6 (by simp) fun h7 hz7 hs7 => ?_)
  replace hz7 : IsZipS h7 z TI TO (rawInt g2.objs.size) := hz7
  refine wpAny_setField_rec hz7 (by simp) fun h8 hz8 hs8 => ?_
  replace hz8 : IsZipS h8 z TI TO (rawInt g2.objs.size) := hz8
  replace hs7 : Heap.SameBut z (g2.push { cls := .type "tuple", data := .seq #[x1, x2] }) h7 := hs7
  replace hs8 : Heap.SameBut z h7 h8 := hs8
  have up : ∀ c o, c ≠ z → g2.get? c = some o → h8.get? c = some o := fun c o c1 e => hs8.extBut _ _ c1 (hs7.extBut _ _ c1 (Heap.get?_push_of_some _ e))
  have hT8 : IsTupOf2 h8 g2.objs.size x1 x2 := hs8.extBut _ _ (Nat.ne_of_gt hzlt) (hs7.extBut _ _ (Nat.ne_of_gt hzlt) (Heap.get?_push_size _ rfl))
  have hl8 : h8.objs.size = g2.objs.size + 1 := by rw [hs8.1, hs7.1, Heap.size_push]
  rw [hsz] at hz8 hT8 hl8
  refine wpAny_pure ⟨_, rfl, ?_⟩
  show Q (.ref g2.objs.size) ⟨h8, g, d, tk2, os⟩
  rw [hsz]
  exact hQ x1 x2 h8 tk2 hx1 hx2 hz8 (up _ _ S.TOz hT2) (D1.frame _ _ _ hj1 fun b hb o e => up b o (fun q => S.zf1 (q ▸ hb)) e) (D2.frame _ _ _ hj2 fun b hb o e => up b o (fun q => S.zf2 (q ▸ hb)) e) hT8 hl8 fun c o cz cT c1 c2 e => up c o cz (hkk c o cz cT c1 c2 e)
theorem zipS_next_end {Q : Fin → Shared → Prop} (hh : A.handled = none) (S : ZipSep2 z TI TO i1 i2 fp1 fp2) (D1 : Draws prog w A i1 fp1 n P1 St1) (D2 : Draws prog w A i2 fp2 n P2 St2)
    (hz : IsZipS s.heap z TI TO .none) (hTI : IsTupOf2 s.heap TI (.ref i1) (.ref i2)) (hTO : IsTupOf2 s.heap TO a1 a2) (st1 : St1 n s.heap) (st2 : St2 n s.heap)
    (hE : ∀ h' tk e, (∀ c o, c ≠ z → c ≠ TO → c ≠ i1 → c ≠ i2 → s.heap.get? c = some o → h'.get? c = some o) → (∃ o, h'.get? e = some o ∧ o.cls = .type "StopIteration") → E (.ref e) { s with heap := h', toks := tk }) :
    wpAny (model prog w) A (Builtin.«zip.__next__» ⟨[.ref z], []⟩) Q E s := by
  obtain ⟨hp, g, d, tk0, os⟩ := s
  show wpAny _ _ (field (.ref z) 2 >>= _) _ _ _
  refine wpAny_bind (wpAny_field hz rfl (x := .bool true) rfl ?_)
  show wpAny _ _ (field (.ref z) 3 >>= _) _ _ _
  refine wpAny_bind (wpAny_field hz rfl (x := .ref TI) rfl ?_)
  refine wpAny_bind (wpAny_seqItems hTI rfl ?_)
  show wpAny _ _ (Builtin.SmallTypes.ownedTupleIsFree (.ref z) >>= _) _ _ _
  refine wpAny_bind ?_
  unfold Builtin.SmallTypes.ownedTupleIsFree
  refine wpAny_bind (wpAny_field hz rfl (x := .none) rfl (wpAny_pure ?_))
  simp only [if_true]
  refine wpAny_bind (wpAny_rule ?_)
  refine wpAny_bind (wpAny_field hz rfl (x := .ref TO) rfl ?_)
  refine wpAny_bind (wpAny_setField_rec hz (by simp) fun g0 hz0 hs0 => ?_)
  replace hz0 : IsZipS g0 z TI TO .ellipsis := hz0
  replace hs0 : Heap.SameBut z hp g0 := hs0
  refine wpAny_bind ?_
  simp only [List.zipIdx_cons, List.zipIdx_nil, List.forIn_cons, List.forIn_nil]
  refine wpAny_bind (wpAny_bind (wpAny_onRaise ?_))
  show wpAny _ _ (Builtin.SmallTypes.nextOrEnd (.ref i1)) _ _ ⟨g0, g, d, tk0, os⟩
  refine orEnd_done (s := ⟨g0, g, d, tk0, os⟩) D1 (D1.over st1 hs0 S.zf1) fun q hq => ?_
  replace hq : Heap.ExtBut i1 g0 q := hq
  have hzq : IsZipS q z TI TO .ellipsis := hq _ _ S.zi1 hz0
  refine wpAny_bind (wpAny_setField_rec (s := ⟨q, g, d, tk0, os⟩) hzq (by simp) fun q2 hz2 hq2 => ?_)
  replace hq2 : Heap.SameBut z q q2 := hq2
  refine wpAny_bind ?_
  have hd2 : St2 n q2 := D2.over (D2.frame _ _ _ (D2.over st2 hs0 S.zf2) fun b hb o e => hq b o (fun x => S.sep1_2 (x ▸ hb)) e) hq2 S.zf2
  refine wpAny_bind (m := forIn [(Value.ref i2, 1)] PUnit.unit _) ?_
  rw [List.forIn_cons]
  refine wpAny_bind (wpAny_bind (orEnd_done (s := ⟨q2, g, d, tk0, os⟩) D2 hd2 fun q3 hq3 => ?_))
  replace hq3 : Heap.ExtBut i2 q2 q3 := hq3
  simp only [Option.isSome_none, Bool.false_eq_true, if_false]
  refine wpAny_pure (wpAny_pure (wpAny_bind (wpAny_rule ?_)))
  show wpAny _ _ (newExc (.type "StopIteration") [] >>= _) _ _ _
  refine wpAny_bind ?_
  simp only [newExc, newTuple]
  refine wpAny_bind (wpAny_newObj_type ?_ (by size_fits))
  refine wpAny_bind (m := firstArgMember _ _) (wpAny_of_eq (a := Value.none) (by first | rfl | (simp only [firstArgMember]; rfl)) ?_)
  refine wpAny_newObj_type ?_ (by size_fits)
  simp only [raiseNew]
  refine wpAny_bind (wpAny_handled ?_)
  first | rw [show A.in1.handled = none from hh] | rw [hh]
  refine wpAny_bind (wpAny_pure (wpAny_throw ?_))
  exact hE _ _ _ (fun c o cz cT c1 c2 x => Heap.get?_push_of_some _ (Heap.get?_push_of_some _ (hq3 _ _ c2 (hq2.extBut _ _ cz (hq _ _ c1 (hs0.extBut _ _ cz x)))))) ⟨_, Heap.get?_push_size _ rfl, rfl⟩
theorem pyNext_zipS_item {Q : Option Value → Shared → Prop} (S : ZipSep2 z TI TO i1 i2 fp1 fp2) (D1 : Draws prog w A.in1 i1 fp1 n P1 St1) (D2 : Draws prog w A.in1 i2 fp2 n P2 St2)
    (hz : IsZipS s.heap z TI TO .none) (hTI : IsTupOf2 s.heap TI (.ref i1) (.ref i2)) (hTO : IsTupOf2 s.heap TO a1 a2) (st1 : St1 i s.heap) (st2 : St2 i s.heap) (hlt : i < n)
    (hQ : ∀ x1 x2 h' tk, P1 i x1 → P2 i x2 → IsZipS h' z TI TO (rawInt s.heap.objs.size) → IsTupOf2 h' TO x1 x2 → St1 (i + 1) h' → St2 (i + 1) h' → IsTupOf2 h' s.heap.objs.size x1 x2 → h'.objs.size = s.heap.objs.size + 1 →
      (∀ c o, c ≠ z → c ≠ TO → c ≠ i1 → c ≠ i2 → s.heap.get? c = some o → h'.get? c = some o) → Q (some (.ref s.heap.objs.size)) { s with heap := h', toks := tk }) :
    wpAny (model prog w) A (pyNext (.ref z)) Q E s := by
  have hT : s.TypeIs (.ref z) "zip" := ⟨_, hz, rfl⟩
  unfold pyNext
  exact wpAny_bind (wpAny_attempt (wpAny_callSpecial?_slot (name := Str.ofString "__next__") hT F.slot_zip_next
    (wpAny_call_entry F.slot_zip_next hT F.entry_zip_next
      (zipS_next_item S D1 D2 hz hTI hTO st1 st2 hlt fun x1 x2 h' tk b1 b2 a1 a2 a3 a4 a5 a6 a7 => wpAny_pure (hQ x1 x2 h' tk b1 b2 a1 a2 a3 a4 a5 a6 a7)) (F.args_zip_next_1 _))))
theorem pyNext_zipS_end {Q : Option Value → Shared → Prop} (hh : A.handled = none) (S : ZipSep2 z TI TO i1 i2 fp1 fp2) (D1 : Draws prog w A.in1 i1 fp1 n P1 St1) (D2 : Draws prog w A.in1 i2 fp2 n P2 St2)
    (hz : IsZipS s.heap z TI TO .none) (hTI : IsTupOf2 s.heap TI (.ref i1) (.ref i2)) (hTO : IsTupOf2 s.heap TO a1 a2) (st1 : St1 n s.heap) (st2 : St2 n s.heap)
    (hQ : ∀ h' tk, (∀ c o, c ≠ z → c ≠ TO → c ≠ i1 → c ≠ i2 → s.heap.get? c = some o → h'.get? c = some o) → Q none { s with heap := h', toks := tk }) : wpAny (model prog w) A (pyNext (.ref z)) Q E s := by
  have hT : s.TypeIs (.ref z) "zip" := ⟨_, hz, rfl⟩
  unfold pyNext
  refine wpAny_bind (wpAny_attempt (wpAny_callSpecial?_slot (name := Str.ofString "__next__") hT F.slot_zip_next
    (wpAny_call_entry F.slot_zip_next hT F.entry_zip_next (zipS_next_end (A := A.in1) hh S D1 D2 hz hTI hTO st1 st2 fun h' tk e hk he => ?_) (F.args_zip_next_1 _))))
  obtain ⟨o, ho, hc⟩ := he
  refine wpAny_bind (wpAny_isInstance (T := "StopIteration") (b := true) ⟨o, ho, hc⟩ isSubtype_stop ?_)
  exact wpAny_pure (hQ _ _ hk)
theorem letGo_zipS {elts : List Expr} {x1} {pos : Pos} {T : Addr} {Q : Unit → Shared → Prop} (hz : IsZipS s.heap z TI TO (rawInt T))
    (hQ : ∀ h', IsZipS h' z TI TO .none → Heap.SameBut z s.heap h' → Q () { s with heap := h' }) :
    wpAny (model prog w) A (letOwnedTupleGo (.Tuple elts x1 pos) (.ref z) (.ref T)) Q E s := by
  unfold letOwnedTupleGo
  refine wpAny_bind (wpAny_load hz ?_)
  show wpAny _ _ (if (["enumerate", "zip", "dict_itemiterator", "dict_reverseitemiterator", "odict_iterator", "itertools.zip_longest", "itertools.pairwise"].contains "zip" &&
      (#[rawInt T, .bool false, .bool true, .ref TI, .ref TO] : Array Value)[0]? == some (rawInt T)) = true then _ else _) Q E s
  rw [if_pos (by simp)]
  refine wpAny_bind (wpAny_rule ?_)
  show wpAny _ _ (setField (.ref z) 0 .none) Q E s
  exact wpAny_setField_rec hz (by simp) fun h' hz' hs' => hQ h' hz' hs'
theorem pyIter_zipS {f0 : Value} {Q : Value → Shared → Prop} (hz : IsZipS s.heap z TI TO f0) (h : Q (.ref z) s) : wpAny (model prog w) A (pyIter (.ref z)) Q E s := by
  have hT : s.TypeIs (.ref z) "zip" := ⟨_, hz, rfl⟩
  refine wpAny_pyIter_slot hT F.slot_zip_iter (wpAny_call_entry F.slot_zip_iter hT F.entry_zip_iter ?_ (F.args_zip_iter_1 _))
  show wpAny _ _ (ret (.ref z)) _ _ s
  exact wpAny_pure ⟨_, rfl, "zip", _, hT, F.slot_zip_next.lookup, h⟩
end
end M

namespace M
open PySem
/-! ### the call zip(x, y, strict=True) -/
theorem typeCall_zipS (a b c : Value) : checkTypeCall "zip" ⟨[a, b], [(Str.ofString "strict", c)]⟩ = pure () := by kernel_rfl
theorem newCall_zipS (a b c : Value) : checkBuiltinCall "zip.__new__" ⟨[.type "zip", a, b], [(Str.ofString "strict", c)]⟩ = pure () := by kernel_rfl
theorem args_init_zipS (obj a b c : Value) : argsOk "object.__init__" ⟨[obj, a, b], [(Str.ofString "strict", c)]⟩ := by unfold argsOk; kernel_rfl
abbrev gzS2 (h : Heap) (o1 o2 : Obj) : Heap := (gzO2 h o1 o2).push { cls := .type "zip", data := .fields #[.none, .bool false, .bool true, .ref ((h.push o1).push o2).objs.size, .ref (gzT2 h o1 o2).objs.size] }
theorem meets_zip_newS {v1 v2 : Value} {o1 o2 : Obj} {H1 H2 : Heap → Prop} (B1 : Begins v1 o1 H1) (B2 : Begins v2 o2 H2) :
    Meets (Builtin.«zip.__new__» ⟨[.type "zip", v1, v2], [(Str.ofString "strict", .bool true)]⟩) (fun _ R s => (H1 s.heap ∧ H2 s.heap) ∧
      R (.ok (.ret (.ref (gzO2 s.heap o1 o2).objs.size))) { s with heap := gzS2 s.heap o1 o2 }) :=
  .of_wp fun prog w A R s h => by
    obtain ⟨hp, g, d, tk, os⟩ := s; obtain ⟨⟨h1, h2⟩, h⟩ := h
    have hsub := sub_zip
    have q1 : ∀ {A' : Around} {E : Value → Shared → Prop} {Q : Value → Shared → Prop}, Q (.ref hp.objs.size) ⟨(hp.push o1), g, d, tk, os⟩ → wpAny (model prog w) A' (pyIter v1) Q E ⟨hp, g, d, tk, os⟩ :=
      fun q => B1.iter prog w _ _ ⟨hp, g, d, tk, os⟩ _ (B1.keeps _ _ h1 fun b o' e => e) q
    have q2 : ∀ {A' : Around} {E : Value → Shared → Prop} {Q : Value → Shared → Prop}, Q (.ref (hp.push o1).objs.size) ⟨((hp.push o1).push o2), g, d, tk, os⟩ → wpAny (model prog w) A' (pyIter v2) Q E ⟨(hp.push o1), g, d, tk, os⟩ :=
      fun q => B2.iter prog w _ _ ⟨(hp.push o1), g, d, tk, os⟩ _ (B2.keeps _ _ h2 fun b o' e => (Heap.get?_push_of_some _ e)) q
    have e1 : (Str.ofString "strict" == ("strict" : Str)) = true := by decide +kernel
    have e2 : (Str.ofString "strict" != ("strict" : Str)) = false := by decide +kernel
    wp_walk using q1, q2
    exact ⟨_, rfl, h⟩
section
variable {prog : Program} {w : World} {A : Around} {E : Value → Shared → Prop} {s : Shared}
theorem zipS_begins {v1 v2 : Value} {o1 o2 : Obj} {H1 H2 : Heap → Prop} {Q : Value → Shared → Prop} (B1 : Begins v1 o1 H1) (B2 : Begins v2 o2 H2) (h1 : H1 s.heap) (h2 : H2 s.heap)
    (h : ∀ h', IsZipS h' (s.heap.objs.size + 4) (s.heap.objs.size + 2) (s.heap.objs.size + 3) .none → IsTupOf2 h' (s.heap.objs.size + 2) (.ref s.heap.objs.size) (.ref (s.heap.objs.size + 1)) →
      IsTupOf2 h' (s.heap.objs.size + 3) .none .none → h'.get? s.heap.objs.size = some o1 → h'.get? (s.heap.objs.size + 1) = some o2 → h'.objs.size = s.heap.objs.size + 5 →
      (∀ c o, s.heap.get? c = some o → h'.get? c = some o) → Q (.ref (s.heap.objs.size + 4)) { s with heap := h' }) :
    wpAny (model prog w) A (call (.type "zip") [v1, v2] [(Str.ofString "strict", .bool true)]) Q E s := by
  refine callType_newKw F.called_zip (by decide) (typeCall_zipS _ _ _) (newCall_zipS _ _ _) (fun obj => args_init_zipS obj _ _ _) F.entry_zip_new
    (meets_zip_newS B1 B2) ⟨⟨h1, h2⟩, ?_⟩
  have z1 : (s.heap.push o1).objs.size = s.heap.objs.size + 1 := by rw [Heap.size_push]
  have z2 : ((s.heap.push o1).push o2).objs.size = s.heap.objs.size + 2 := by rw [Heap.size_push, z1]
  have zT : (gzT2 s.heap o1 o2).objs.size = s.heap.objs.size + 3 := by rw [Heap.size_push, z2]
  have zO : (gzO2 s.heap o1 o2).objs.size = s.heap.objs.size + 4 := by rw [Heap.size_push, zT]
  have zZ : (gzS2 s.heap o1 o2).objs.size = s.heap.objs.size + 5 := by rw [Heap.size_push, zO]
  have gZ : (gzS2 s.heap o1 o2).get? (gzO2 s.heap o1 o2).objs.size = some { cls := .type "zip", data := .fields #[.none, .bool false, .bool true, .ref ((s.heap.push o1).push o2).objs.size, .ref (gzT2 s.heap o1 o2).objs.size] } := Heap.get?_push_size _ rfl
  have gO : (gzS2 s.heap o1 o2).get? (gzT2 s.heap o1 o2).objs.size = some { cls := .type "tuple", data := .seq #[.none, .none] } := Heap.get?_push_of_some _ (Heap.get?_push_size _ rfl)
  have gT : (gzS2 s.heap o1 o2).get? ((s.heap.push o1).push o2).objs.size = some { cls := .type "tuple", data := .seq #[.ref s.heap.objs.size, .ref (s.heap.push o1).objs.size] } := Heap.get?_push_of_some _ (Heap.get?_push_of_some _ (Heap.get?_push_size _ rfl))
  have g1 : (gzS2 s.heap o1 o2).get? s.heap.objs.size = some o1 := Heap.get?_push_of_some _ (Heap.get?_push_of_some _ (Heap.get?_push_of_some _ (Heap.get?_push_of_some _ (Heap.get?_push_size _ B1.free))))
  have g2 : (gzS2 s.heap o1 o2).get? (s.heap.push o1).objs.size = some o2 := Heap.get?_push_of_some _ (Heap.get?_push_of_some _ (Heap.get?_push_of_some _ (Heap.get?_push_size _ B2.free)))
  rw [zO, zT, z2] at gZ
  rw [zT] at gO
  rw [z2, z1] at gT
  rw [z1] at g2
  show _ ∧ _
  rw [zO]
  exact ⟨⟨_, gZ, rfl⟩, h _ gZ gT gO g1 g2 zZ fun c o e => Heap.get?_push_of_some _ (Heap.get?_push_of_some _ (Heap.get?_push_of_some _ (Heap.get?_push_of_some _ (Heap.get?_push_of_some _ e))))⟩
end
section
variable {M : Model} {A : Around} {E : Value → Shared → Prop} {s : Shared} {env : Env}
theorem callWith_type_kw {pos : Pos} {T : String} {e : Expr} {rest : List Expr} {kws : List Keyword} {Q : Value → Shared → Prop}
    (h : wpAny M A (spliced (backTo pos (starEach (e :: rest) env))) (fun vs s₁ => wpAny M A (evalAll ((backToKw pos (keywordEach kws env)).map (·.2)))
      (fun kvs s₂ => wpAny M A (call (.type T) vs (((backToKw pos (keywordEach kws env)).filterMap (·.1)).zip kvs)) Q E s₂) E s₁) E s)
    (he : backTo pos (starEach (e :: rest) env) = (false, eval e env) :: backTo pos (starEach rest env))
    (hplain : (backTo pos (starEach (e :: rest) env)).any (·.1) = false)
    (hall : (backToKw pos (keywordEach kws env)).all (·.1.isSome) = true)
    (hkw : (backToKw pos (keywordEach kws env)).any (·.1.isNone) = false) :
    wpAny M A (callWith pos (.type T) [] (backTo pos (starEach (e :: rest) env)) (backToKw pos (keywordEach kws env))) Q E s := by
  have h2 : wpAny M A (evalArgs (.type T) true (backTo pos (starEach (e :: rest) env)) (backToKw pos (keywordEach kws env))) (fun a s₁ => wpAny M A (call (.type T) ([] ++ a.pos) a.kw) Q E s₁) E s := by
    rw [he] at h ⊢
    exact PyProof.Rows.evalArgs_kwB hall h
  unfold callWith
  refine wpAny_bind (wpAny_holding (wpAny_mono h2 (fun a s₁ h₁ => wpAny_bind (wpAny_standAt ?_)) fun _ _ x => x))
  simp only [hplain, hkw, Bool.or_false]
  refine wpAny_bind (wpAny_pure ?_)
  exact wpAny_bind (wpAny_mono h₁ (fun r s₂ hr => wpAny_bind (wpAny_holding (wpAny_point (wpAny_pure hr)))) fun _ _ x => x)
end
end M

namespace M
open PySem L2
/-! ### a walk over zip(x, y, strict=True) -/
inductive Sk where
  | l | t
def SqK (K : PySem.W.Frag) (k : Sk) (H : Hp) (a : Addr) (xs : List V) : Prop := match k with
  | .l => SqL K H a xs
  | .t => SqT K H a xs
def ItK (k : Sk) (h : Heap) (it a : Addr) (i : Nat) : Prop := match k with
  | .l => h.IsListIter it a i
  | .t => h.IsTupleIter it a i
def HsK (k : Sk) (h : Heap) (a : Addr) (items : Array Value) : Prop := match k with
  | .l => h.IsList a items
  | .t => h.IsTuple a items
def oK (k : Sk) (a : Addr) : Obj := match k with
  | .l => { cls := .type "list_iterator", data := .fields #[.ref a, .int 0 0] }
  | .t => { cls := .type "tuple_iterator", data := .fields #[.ref a, .int 0 0] }
theorem drawsK {prog : Program} {w : World} {A : Around} (k : Sk) (hh : A.handled = none) (it a : Addr) (hne : a ≠ it) (items : Array Value) :
    Draws prog w A it [it, a] items.size (fun i v => items[i]? = some v) (fun i h => ItK k h it a i ∧ HsK k h a items) := by
  cases k
  · exact Draws.list hh it a hne items
  · exact Draws.tuple hh it a hne items
theorem beginsK (k : Sk) (a : Addr) (items : Array Value) : Begins (.ref a) (oK k a) fun h => HsK k h a items := by
  cases k
  · exact begins_list a items
  · exact begins_tuple a items
theorem iterK {k : Sk} {h : Heap} {it a : Addr} (e : h.get? it = some (oK k a)) : ItK k h it a 0 := by
  cases k
  · exact ⟨_, e, rfl, rfl⟩
  · exact ⟨_, e, rfl, rfl⟩
theorem ItK.obj {k : Sk} {h : Heap} {it a : Addr} {i : Nat} (x : ItK k h it a i) : ∃ o, h.get? it = some o ∧ ∀ v, o.data ≠ .cell v := by
  cases k
  · obtain ⟨o, e, _, d⟩ := x
    exact ⟨o, e, fun v q => by rw [d] at q; cases q⟩
  · obtain ⟨o, e, _, d⟩ := x
    exact ⟨o, e, fun v q => by rw [d] at q; cases q⟩
theorem ItK.at' {k : Sk} {h h' : Heap} {it a : Addr} {i : Nat} (x : ItK k h it a i) (f : ∀ o, h.get? it = some o → h'.get? it = some o) : ItK k h' it a i := by
  cases k
  · exact Heap.IsListIter.at x f
  · exact Heap.IsTupleIter.at x f
section
variable {X : Cx} {pins : List (Addr × Obj)} {σ : L2.St} {H : Hp} {s : Shared}
theorem invK {k : Sk} {a : Addr} {xs : List V} (I : Inv X pins σ H s) (h : SqK X.K k H a xs) : ∃ its, Vals xs its ∧ HsK k s.heap a its.toArray := by
  cases k
  · obtain ⟨its, r, p, _⟩ := I.list h
    exact ⟨its, r, p.isList⟩
  · obtain ⟨its, r, p, _⟩ := I.tuple h
    exact ⟨its, r, p⟩
theorem HsK.lt {k : Sk} {h : Heap} {a : Addr} {items : Array Value} (x : HsK k h a items) : a < h.objs.size := by
  cases k
  · obtain ⟨o, e, _⟩ := x
    exact Heap.lt_size e
  · obtain ⟨o, e, _⟩ := x
    exact Heap.lt_size e
theorem injK {k : Sk} {a : Addr} {xs ys : List V} (I : Inv X pins σ H s) (h : SqK X.K k H a xs) (h' : SqK X.K k H a ys) : xs = ys := by
  cases k
  · exact I.list_inj h h'
  · exact I.tuple_inj h h'
end
theorem nk_ne {n a : Nat} (k : Nat) (h : a < n) : ¬ n + k = a := by omega
theorem kn_ne {n a : Nat} (k : Nat) (h : a < n) : ¬ a = n + k := by omega
def ItzS (K : PySem.W.Frag) (k1 k2 : Sk) (a b : Addr) : It :=
  ⟨fun i H => ∃ (xs ys : List V) (x y : V), SqK K k1 H a xs ∧ SqK K k2 H b ys ∧ xs.length = ys.length ∧ xs[i]? = some x ∧ ys[i]? = some y,
    fun i H v H' => ∃ T x y, v = .ref T ∧ H T = none ∧ H' = upd H T (.tup [x, y]) ∧ (∀ xs, SqK K k1 H a xs → xs[i]? = some x) ∧ ∀ ys, SqK K k2 H b ys → ys[i]? = some y,
    fun i H => ∃ xs ys : List V, SqK K k1 H a xs ∧ SqK K k2 H b ys ∧ xs.length = i ∧ ys.length = i⟩
theorem turn_zipS {P : Program} {w : World} {K : PySem.W.Frag} {elts : List Expr} {kk : Nat} {tpos : Pos} {k1 k2 : Sk} {a b z TI TO i1 i2 : Addr} (D : ZipSep2 z TI TO i1 i2 [i1, a] [i2, b]) (ha : a ≠ i1) (hb : b ≠ i2) (i1z : i1 ≠ z) (i2z : i2 ≠ z) :
    Turn P w K (.Tuple elts kk tpos) (ItzS K k1 k2 a b) [z, TI, TO, i1, i2] z (fun i h => IsZipS h z TI TO .none ∧ IsTupOf2 h TI (.ref i1) (.ref i2) ∧ (∃ x y, IsTupOf2 h TO x y) ∧ ItK k1 h i1 a i ∧ ItK k2 h i2 b i) where
  mem := by simp
  obj := fun i h st c hc => by
    obtain ⟨hz, hTI, ⟨x, y, hTO⟩, h1, h2⟩ := st
    have e' : c = z ∨ c = TI ∨ c = TO ∨ c = i1 ∨ c = i2 := by simpa using hc
    rcases e' with q | q | q | q | q
    · rw [q]; exact ⟨_, hz, fun v q => nomatch q⟩
    · rw [q]; exact ⟨_, hTI, fun v q => nomatch q⟩
    · rw [q]; exact ⟨_, hTO, fun v q => nomatch q⟩
    · rw [q]; exact h1.obj
    · rw [q]; exact h2.obj
  keep := fun i h h' st k => by
    obtain ⟨hz, hTI, ⟨x, y, hTO⟩, h1, h2⟩ := st
    exact ⟨k z (by simp) _ hz, k TI (by simp) _ hTI, ⟨x, y, k TO (by simp) _ hTO⟩, h1.at' fun o q => k i1 (by simp) o q, h2.at' fun o q => k i2 (by simp) o q⟩
  item := by
    intro X hP hw hK hc i pins s σ H E I hf st hg
    subst hP hw hK
    obtain ⟨hz, hTI, ⟨x0, y0, hTO⟩, h1, h2⟩ := st
    obtain ⟨xs, ys, x, y, hqx, hqy, hl, hx, hy⟩ := hg
    obtain ⟨its, rv, p⟩ := invK I hqx
    obtain ⟨its2, rv2, p2⟩ := invK I hqy
    obtain ⟨u, hu, ru⟩ := rv.get hx
    obtain ⟨u2, hu2, ru2⟩ := rv2.get hy
    have hzl : z < s.heap.objs.size := Heap.lt_size hz
    have hn : its2.toArray.size = its.toArray.size := by rw [List.size_toArray, List.size_toArray, ← rv.length, ← rv2.length, hl]
    have hh : X.A.in1.handled = none := I.ok.hd hc
    have D1 := drawsK (prog := X.prog) (w := X.w) (A := X.A.in1) k1 hh i1 a ha its.toArray
    have D2 := drawsK (prog := X.prog) (w := X.w) (A := X.A.in1) k2 hh i2 b hb its2.toArray
    rw [hn] at D2
    have hlt : i < its.toArray.size := by
      have := (List.getElem?_eq_some_iff.mp hu).1
      simpa using this
    refine pyNext_zipS_item D D1 D2 hz hTI hTO ⟨h1, p⟩ ⟨h2, p2⟩ hlt fun x1 x2 h' tk b1 b2 z' TO' st1 st2 hT hsz hk => ?_
    obtain rfl : u = x1 := by
      have e : its.toArray[i]? = some u := by simpa using hu
      exact Option.some.inj (e.symm.trans b1)
    obtain rfl : u2 = x2 := by
      have e : its2.toArray[i]? = some u2 := by simpa using hu2
      exact Option.some.inj (e.symm.trans b2)
    refine ⟨_, rfl, letGo_zipS (s := { s with heap := h', toks := tk }) z' fun h'' z'' sb => ?_⟩
    have hT2 : h''.get? s.heap.objs.size = some { cls := .type "tuple", data := .seq #[u, u2] } := (sb.2 _ (Nat.ne_of_gt hzl)).trans hT
    have new : ObjOk X.prog X.w (upd H s.heap.objs.size (.tup [x, y])) h'' s.heap.objs.size (.tup [x, y]) :=
      ⟨by show 2 ≤ sizeLine; decide, [u, u2], .cons ru (.cons ru2 .nil), ⟨_, hT2, rfl, _, rfl⟩⟩
    have I1 : Inv X pins σ (upd H s.heap.objs.size (.tup [x, y])) { s with heap := h'', toks := tk } :=
      I.turnedNew (t' := tk) (ch := [z, TI, TO, i1, i2]) (fun c o hb q => (sb.2 c (fun q' => hb (by simp [q']))).trans (hk c o (fun q' => hb (by simp [q'])) (fun q' => hb (by simp [q'])) (fun q' => hb (by simp [q'])) (fun q' => hb (by simp [q'])) q)) hf (Nat.le_refl _) new
    refine ⟨.ref s.heap.objs.size, _, I1, rfl, ⟨_, x, y, rfl, I.hok.fresh (Nat.le_refl _), rfl, fun l hl => by rw [injK I hl hqx]; exact hx, fun l hl => by rw [injK I hl hqy]; exact hy⟩, ⟨z'', ?_, ⟨u, u2, ?_⟩, ?_, ?_⟩, fun c hcm => ?_⟩
    · exact (sb.2 _ D.TIz).trans (hk _ _ D.TIz D.TITO D.TIi1 D.TIi2 hTI)
    · exact (sb.2 _ D.TOz).trans TO'
    · exact st1.1.at' fun o q => (sb.2 _ i1z).trans q
    · exact st2.1.at' fun o q => (sb.2 _ i2z).trans q
    · have hlt : c < s.heap.objs.size := by
        have e' : c = z ∨ c = TI ∨ c = TO ∨ c = i1 ∨ c = i2 := by simpa using hcm
        rcases e' with q | q | q | q | q
        · rw [q]; exact hzl
        · rw [q]; exact Heap.lt_size hTI
        · rw [q]; exact Heap.lt_size hTO
        · rw [q]; obtain ⟨_, e1, _⟩ := h1.obj; exact Heap.lt_size e1
        · rw [q]; obtain ⟨_, e2, _⟩ := h2.obj; exact Heap.lt_size e2
      rw [upd_ne (Nat.ne_of_lt hlt)]
      exact (hf c hcm).1
  done := by
    intro X hP hw hK hc i pins s σ H E I hf st hg
    subst hP hw hK
    obtain ⟨hz, hTI, ⟨x0, y0, hTO⟩, h1, h2⟩ := st
    obtain ⟨xs, ys, hqx, hqy, hl1, hl2⟩ := hg
    obtain ⟨its, rv, p⟩ := invK I hqx
    obtain ⟨its2, rv2, p2⟩ := invK I hqy
    have n1 : its.toArray.size = i := by rw [List.size_toArray, ← rv.length, hl1]
    have n2 : its2.toArray.size = i := by rw [List.size_toArray, ← rv2.length, hl2]
    have hh : X.A.in1.handled = none := I.ok.hd hc
    have D1 := drawsK (prog := X.prog) (w := X.w) (A := X.A.in1) k1 hh i1 a ha its.toArray
    have D2 := drawsK (prog := X.prog) (w := X.w) (A := X.A.in1) k2 hh i2 b hb its2.toArray
    rw [n1] at D1
    rw [n2] at D2
    exact pyNext_zipS_end (I.ok.hd hc) D D1 D2 hz hTI hTO ⟨h1, p⟩ ⟨h2, p2⟩ fun h' tk hk => ⟨rfl, I.turnedL (t' := tk) (ch := [z, TI, TO, i1, i2]) (fun c o hb q =>
      hk c o (fun q' => hb (by simp [q'])) (fun q' => hb (by simp [q'])) (fun q' => hb (by simp [q'])) (fun q' => hb (by simp [q'])) q) hf⟩
  self := fun A i s Q E st h => pyIter_zipS st.1 h
def iZipS (K : PySem.W.Frag) (ta : TA) : TI := fun σ H R => ta σ H fun vs H1 => ∃ k1 k2 a b xs ys, vs = [.ref a, .ref b] ∧ SqK K k1 H1 a xs ∧ SqK K k2 H1 b ys ∧ R (ItzS K k1 k2 a b) H1
theorem pi_zipS {X : Cx} {e e2 : Expr} {ta : TA} {p pos tpos kpos kpos2 : Pos} {j : Nat} {elts : List Expr} {kk : Nat} (hg : Gl X "zip") (hm : X.mg "zip" = none) (ha : PA X [e, e2] ta)
    (hs : starEach [e, e2] X.env = (false, eval e X.env) :: starEach [e2] X.env := by rfl) (hpl : (backTo pos (starEach [e2] X.env)).any (·.1) = false := by rfl) :
    PI X (.Tuple elts kk tpos) (.Call (.Name "zip" p) [e, e2] [⟨some "strict", .Constant (.bool true) j kpos2, kpos⟩] pos) (iZipS X.K ta) := by
  refine ⟨fun pins s σ H R I h => ?_⟩
  refine wpAny_Call_Name_kw (ld_blt I hg hm PyProof.Rows.boot_zip ?_)
  refine callWith_type_kw (thn (ha.run pos pins s σ H _ I h) fun us s1 ⟨vs, H1, I1, r1, q1⟩ => ?_) (by rw [hs]; rfl) (by rw [hs]; show (false || (backTo pos (starEach [e2] X.env)).any (·.1)) = false; rw [hpl]; rfl) rfl rfl
  refine PyProof.Rows.kws_cons (thn (pe_bl.run pins s1 σ H1 (fun v H2 => v = .bl true ∧ H2 = H1) I1 ⟨rfl, rfl⟩) fun tv s2 ⟨x2, H2, I2, r2, e2', e3⟩ => PyProof.Rows.kws_nil ?_)
  subst e2' e3
  obtain rfl : tv = .bool true := r2
  obtain ⟨k1, k2, a, b, xs, ys, ex, hqx, hqy, q⟩ := q1
  subst ex
  cases r1 with
  | cons r rr =>
    cases rr with
    | cons r' rr =>
      cases rr
      cases r
      cases r'
      have fresh5 : ∀ c, c ∈ [s2.heap.objs.size + 4, s2.heap.objs.size + 2, s2.heap.objs.size + 3, s2.heap.objs.size, s2.heap.objs.size + 1] → FpOk X pins H2 c := fun c hcm => by
        have e' : c = s2.heap.objs.size + 4 ∨ c = s2.heap.objs.size + 2 ∨ c = s2.heap.objs.size + 3 ∨ c = s2.heap.objs.size ∨ c = s2.heap.objs.size + 1 := by simpa using hcm
        have hle : s2.heap.objs.size ≤ c := by
          rcases e' with z | z | z | z | z
          · rw [z]; exact Nat.le_add_right _ _
          · rw [z]; exact Nat.le_add_right _ _
          · rw [z]; exact Nat.le_add_right _ _
          · rw [z]; exact Nat.le_refl _
          · rw [z]; exact Nat.le_add_right _ _
        exact I2.fpOk hle (I2.hok.fresh hle)
      obtain ⟨its, rv, p1⟩ := invK I2 hqx
      obtain ⟨its2, rv2, p2⟩ := invK I2 hqy
      have la := p1.lt
      have lb := p2.lt
      show wpAny _ _ (call (.type "zip") [.ref a, .ref b] [(Str.ofString "strict", .bool true)]) _ _ s2
      refine zipS_begins (beginsK k1 a its.toArray) (beginsK k2 b its2.toArray) p1 p2 fun h' hz hTI hTO g1 g2 hsz hk => pyIter_zipS hz ?_
      have I3 : Inv X pins σ H2 { s2 with heap := h' } := I2.kept (t' := s2.toks) hk
      refine ⟨s2.heap.objs.size + 4, [s2.heap.objs.size + 4, s2.heap.objs.size + 2, s2.heap.objs.size + 3, s2.heap.objs.size, s2.heap.objs.size + 1], _, _, H2, rfl, I3, turn_zipS ⟨?_, ?_, ?_, ?_, ?_, ?_, ?_, ?_, ?_, ?_, ?_, ?_, ?_⟩ ?_ ?_ ?_ ?_, ⟨hz, hTI, ⟨_, _, hTO⟩, iterK g1, iterK g2⟩, fresh5, q⟩
      all_goals first | (simp; done) | (simp; first | exact nk_ne 4 la | exact nk_ne 3 la | exact nk_ne 1 la | exact nk_ne 0 la | exact nk_ne 4 lb | exact nk_ne 3 lb | exact nk_ne 1 lb | exact nk_ne 0 lb | exact kn_ne 0 la | exact kn_ne 1 lb)
end M

namespace M
open PySem L2
section
variable {X : Cx} {W : XW}
/-! ### zip(x, y, strict=True) over data -/
def sqD (S : Sto) (d : D) : Option (List D) := match d with
  | .tup xs => some xs
  | .ref n => (match S[n]? with
    | some (.lst xs) => some xs
    | _ => none)
  | _ => none
def kdD : D → Sk
  | .tup _ => .t
  | _ => .l
theorem sqD_read {p : List Addr} {S : Sto} {H : Hp} {d : D} {v : V} {xs : List D} (hs : RS (gX X) p S H) (r : RD (gX X) p H d v) (h : sqD S d = some xs) : ∃ a us, v = .ref a ∧ SqK X.K (kdD d) H a us ∧ RDs (gX X) p H xs us := by
  unfold sqD at h
  split at h
  · cases h
    obtain ⟨a, vs, rfl, e, rs⟩ := r
    exact ⟨a, vs, rfl, e, rs⟩
  · rename_i n
    obtain ⟨a, ea, rfl⟩ := r
    split at h
    · rename_i ds hd
      cases h
      obtain ⟨us, ex, rs⟩ := lst_at hs ea hd
      exact ⟨a, us, rfl, .of ex, rs⟩
    · cases h
  · cases h
def aiZipS (ds : List D) (S : Sto) : Rs AI := match ds with
  | [x, y] => (match sqD S x, sqD S y with
    | some xs, some ys => if xs.length = ys.length then .ok ⟨zipD xs ys, fun S => sqD S x = some xs ∧ sqD S y = some ys, none⟩ S else .bad
    | _, _ => .bad)
  | _ => .bad
def iZpS (t : En → Sto → Rs (List D)) : En → Sto → Rs AI := fun E S => (t E S).bind aiZipS
theorem mi_zipS {e e2 : Expr} {t : En → Sto → Rs (List D)} {p pos tpos kpos kpos2 : Pos} {j : Nat} {elts : List Expr} {kk : Nat} (hg : Gl X "zip") (hm : X.mg "zip" = none) (ha : MA X W [e, e2] t)
    (hs : starEach [e, e2] X.env = (false, eval e X.env) :: starEach [e2] X.env := by rfl) (hpl : (backTo pos (starEach [e2] X.env)).any (·.1) = false := by rfl) :
    MI X W (.Tuple elts kk tpos) (.Call (.Name "zip" p) [e, e2] [⟨some "strict", .Constant (.bool true) j kpos2, kpos⟩] pos) (iZpS t) :=
  PI.imp (pi_zipS hg hm ha hs hpl) fun σ H R q => by
    obtain ⟨p, S, E, hs, he, q⟩ := q
    refine ⟨p, S, E, hs, he, post_mono (fun ds S1 p1 H1 x1 hs1 q1 vs rvs => ?_) (post_bind q)⟩
    unfold aiZipS at q1
    split at q1
    · rename_i x y
      obtain ⟨v, u, rfl, rv, ru⟩ := two_of rvs
      split at q1
      · rename_i xs ys hx hy
        split at q1
        · rename_i hl
          obtain ⟨a, us, rfl, ea, rs⟩ := sqD_read hs1 rv hx
          obtain ⟨b, ws, rfl, eb, rt⟩ := sqD_read hs1 ru hy
          have look : ∀ q S H', Ext (gX X) p1 H1 q H' → RS (gX X) q S H' → (sqD S x = some xs ∧ sqD S y = some ys) → ∃ us ws, SqK X.K (kdD x) H' a us ∧ SqK X.K (kdD y) H' b ws ∧ RDs (gX X) q H' xs us ∧ RDs (gX X) q H' ys ws := fun q S H' e' r g => by
            obtain ⟨a', us', ea', s1, s2⟩ := sqD_read r (rv.mono e'.pre e'.tup) g.1
            obtain ⟨b', ws', eb', s3, s4⟩ := sqD_read r (ru.mono e'.pre e'.tup) g.2
            cases ea'
            cases eb'
            exact ⟨us', ws', s1, s3, s2, s4⟩
          refine ⟨kdD x, kdD y, a, b, us, ws, rfl, ea, eb, post_ok q1 hs1 _ _ .none ⟨fun i q S H' e' r g hi => ?_, fun q S H' e' r g => ?_, fun i q S H' z H2 dd e' r g hi yy => ?_⟩⟩
          · obtain ⟨us', ws', s1, s3, s2, s4⟩ := look q S H' e' r g
            have hi2 : i < (zipD xs ys).length := hi
            rw [zipD_len] at hi2
            have i1 : i < us'.length := by rw [← s2.length]; omega
            have i2 : i < ws'.length := by rw [← s4.length]; omega
            exact ⟨us', ws', us'[i], ws'[i], s1, s3, by rw [← s2.length, ← s4.length]; exact hl, by simp [i1], by simp [i2]⟩
          · obtain ⟨us', ws', s1, s3, s2, s4⟩ := look q S H' e' r g
            refine ⟨us', ws', s1, s3, ?_, ?_⟩
            · show us'.length = (zipD xs ys).length
              rw [zipD_len, ← s2.length]; omega
            · show ws'.length = (zipD xs ys).length
              rw [zipD_len, ← s4.length]; omega
          · obtain ⟨us', ws', s1, s3, s2, s4⟩ := look q S H' e' r g
            obtain ⟨c, d, hc, hd, rfl⟩ := zipD_get hi
            obtain ⟨T, u1, u2, rfl, hT, e2, h1, h2⟩ := yy
            obtain ⟨w1, hw1, r1⟩ := s2.get hc
            obtain ⟨w2, hw2, r2⟩ := s4.get hd
            have k1 := h1 us' s1
            have k2 := h2 ws' s3
            rw [hw1] at k1
            rw [hw2] at k2
            cases k1
            cases k2
            exact pair_z hT e2 r r1 r2
        · exact q1.elim
      · exact q1.elim
    · exact q1.elim
end
end M

namespace M
open PySem L2
section
variable {X : Cx} {W : XW}
/-! ### sorted(xs) of data -/
/-- sorted by keys -/
def sortBy {α : Type} (xs : List α) (ks : List PyData) : List α := ((xs.zip ks).mergeSort (PySem.W.dataLe false (·.2))).map (·.1)
def rSortD (K : PySem.W.Frag) : List V → Hp → VK → Prop := fun vs H Q => ∃ (a : Addr) (xs : List V) (ks : List PyData), vs = [V.ref a] ∧ SqL K H a xs ∧ DpAll K H xs ks ∧ PySem.W.AllAlike ks ∧ PySem.W.Sortable ks ∧ (∀ k ∈ ks, k.depth ≤ 32) ∧ ∀ p, H p = none → Q (.ref p) (upd H p (.lst (sortBy xs ks)))
theorem dpAll_len {H : Hp} : ∀ {xs : List V} {ks : List PyData}, DpAll X.K H xs ks → ks.length = xs.length
  | _, _, .nil => rfl
  | _, _, .cons _ t => by rw [List.length_cons, List.length_cons, dpAll_len t]
theorem each_of {s : Shared} {pins : List (Addr × Obj)} {σ : L2.St} {H : Hp} (I : Inv X pins σ H s) : ∀ {xs : List V} {ks : List PyData} {us : List Value}, DpAll X.K H xs ks → Vals xs us → PySem.W.EachIs (fun v b => RelV b.1 v) us (xs.zip ks) ∧ PySem.W.EachIs (fun v b => ∃ as, Reads s.heap v b.2 as) us (xs.zip ks) ∧ (xs.zip ks).map (·.2) = ks
  | _, _, _, .nil, .nil => ⟨.nil, .nil, rfl⟩
  | _, _, _, .cons d ds, .cons r rs => by
    obtain ⟨h1, h2, h3⟩ := each_of I ds rs
    exact ⟨.cons r h1, .cons (Dp.reads I _ _ _ d r) h2, by rw [List.zip_cons_cons, List.map_cons, h3]⟩
theorem each_vals : ∀ {us : List Value} {bs : List (V × PyData)}, PySem.W.EachIs (fun v b => RelV b.1 v) us bs → Vals (bs.map (·.1)) us
  | _, _, .nil => .nil
  | _, _, .cons r rs => .cons r (each_vals rs)
theorem cr_sortD (hu : X.A.units + 64 < cLine) : CallR X (.builtin "sorted") (rSortD X.K) := by
  intro pins s σ H vs us Q I r h
  obtain ⟨a, xs, ks, rfl, hs, hd, hal, hso, hdp, q⟩ := h
  obtain ⟨its, rv, hl, hz⟩ := I.list hs
  rw [Vals.ref1 r]
  obtain ⟨e1, e2, e3⟩ := each_of I hd rv
  have hlen : (xs.zip ks).length = xs.length := by
    have := congrArg List.length e3
    rw [List.length_map] at this
    have hk : ks.length = xs.length := dpAll_len hd
    rw [this, hk]
  refine PySem.W.sorted_data (enc := fun b : V × PyData => b.2) (R := fun v b => RelV b.1 v) hl.isList e1 e2 (by rw [e3]; exact hal) (by rw [e3]; exact hso) (by rw [hlen]; exact hz) (fun b hb => ?_) fun out ho hR => ?_
  · have : b.2 ∈ ks := by rw [← e3]; exact List.mem_map.mpr ⟨b, hb, rfl⟩
    have := hdp _ this
    omega
  · obtain ⟨ep, he'⟩ := PyProof.Rows.sortedAll_at s.heap its out.toArray
    have rv2 := each_vals hR
    refine ⟨.ref _, upd H (s.heap.objs.size + 1) (.lst (sortBy xs ks)), I.laid (t' := s.toks) (fun _ _ => PyProof.Rows.sortedAll_old) (Nat.le_succ _) ⟨?_, out, ep, rv2, he'⟩, rfl, q _ (I.hok.fresh (Nat.le_succ _))⟩
    show (sortBy xs ks).length ≤ sizeLine
    unfold sortBy
    rw [List.length_map, List.length_mergeSort, hlen]
    exact hz
/-- closed data as keys -/
def keyP : D → Option PyData := toPyW fun _ => none
def keyPs : List D → Option (List PyData) := toPysW fun _ => none
def allAlikeB (ks : List PyData) : Bool := ks.all fun d => ks.all fun d' => PySem.W.alike d d'
def isTup1 : PyData → Bool
  | .tuple (_ :: _) => true
  | _ => false
def isFlat : PyData → Bool
  | .none => false
  | .tuple _ => false
  | _ => true
def sortOkB (ks : List PyData) : Bool := allAlikeB ks && (ks.all isTup1 || ks.all isFlat) && ks.all fun k => decide (k.depth ≤ 32)
theorem sortOk_read {ks : List PyData} (h : sortOkB ks = true) : PySem.W.AllAlike ks ∧ PySem.W.Sortable ks ∧ ∀ k ∈ ks, k.depth ≤ 32 := by
  unfold sortOkB allAlikeB at h
  rw [Bool.and_eq_true, Bool.and_eq_true] at h
  obtain ⟨⟨h1, h2⟩, h3⟩ := h
  refine ⟨fun d hd d' hd' => List.all_eq_true.mp (List.all_eq_true.mp h1 d hd) d' hd', ?_, fun k hk => of_decide_eq_true (List.all_eq_true.mp h3 k hk)⟩
  rw [Bool.or_eq_true] at h2
  rcases h2 with h2 | h2
  · refine .inl fun d hd => ?_
    have := List.all_eq_true.mp h2 d hd
    match d, this with
    | .tuple (x :: r), _ => exact ⟨x, r, rfl⟩
  · refine .inr fun d hd => ?_
    have := List.all_eq_true.mp h2 d hd
    refine ⟨fun z => ?_, fun xs z => ?_⟩
    · rw [z] at this; cases this
    · rw [z] at this; cases this
/-- the data of a list, sorted -/
def sortDs (ds : List D) : Option (List D) := match keyPs ds with
  | some ks => if sortOkB ks then some (sortBy ds ks) else none
  | none => none
theorem rds_zip {K : KX} {p : List Addr} {H : Hp} {ds : List D} {vs : List V} {ks : List PyData} (r : RDs K p H ds vs) (hl : ds.length = ks.length) : RDs K p H (sortBy ds ks) (sortBy vs ks) := by
  have hl2 : vs.length = ks.length := by rw [← r.length]; exact hl
  have key : ∀ (zs : List ((D × V) × PyData)), (∀ z ∈ zs, RD K p H z.1.1 z.1.2) → RDs K p H (zs.map (·.1.1)) (zs.map (·.1.2)) := fun zs h => by
    induction zs with
    | nil => exact rfl
    | cons z zs ih => exact ⟨_, _, rfl, h z (List.mem_cons_self ..), ih fun y hy => h y (List.mem_cons_of_mem _ hy)⟩
  have pr : ∀ z ∈ (ds.zip vs), RD K p H z.1 z.2 := fun z hz => by
    obtain ⟨i, hi, e⟩ := List.getElem_of_mem hz
    have e1 : ds[i]? = some z.1 ∧ vs[i]? = some z.2 := List.getElem?_zip_eq_some.mp (by rw [List.getElem?_eq_getElem hi, e])
    obtain ⟨v, hv, rv⟩ := r.get e1.1
    rw [e1.2] at hv
    cases hv
    exact rv
  have map1 : ∀ {α β : Type} (f : α → β) (xs : List α) (ks : List PyData), sortBy (xs.map f) ks = (sortBy xs ks).map f := fun f xs ks => by
    unfold sortBy
    rw [List.map_map]
    have e : (xs.map f).zip ks = (xs.zip ks).map fun z => (f z.1, z.2) := by
      rw [List.zip_map_left]; rfl
    rw [e]
    have e2 := List.map_mergeSort (r := PySem.W.dataLe false (fun z : _ × PyData => z.2)) (s := PySem.W.dataLe false (fun z : _ × PyData => z.2)) (f := fun z => (f z.1, z.2)) (l := xs.zip ks) (fun _ _ _ _ => rfl)
    rw [← e2, List.map_map]
    rfl
  have d1 : ds = (ds.zip vs).map (·.1) := by rw [List.map_fst_zip (by rw [r.length]; exact Nat.le_refl _)]
  have d2 : vs = (ds.zip vs).map (·.2) := by rw [List.map_snd_zip (by rw [r.length]; exact Nat.le_refl _)]
  have e1 : sortBy ds ks = (((ds.zip vs).zip ks).mergeSort (PySem.W.dataLe false (·.2))).map (·.1.1) := by
    conv => lhs; rw [d1, map1]
    unfold sortBy
    rw [List.map_map]; rfl
  have e2 : sortBy vs ks = (((ds.zip vs).zip ks).mergeSort (PySem.W.dataLe false (·.2))).map (·.1.2) := by
    conv => lhs; rw [d2, map1]
    unfold sortBy
    rw [List.map_map]; rfl
  rw [e1, e2]
  refine key _ fun z hz => pr z.1 ?_
  have := List.mem_mergeSort.mp hz
  exact (List.of_mem_zip this).1
end
end M

namespace M
open PySem L2
section
variable {X : Cx} {W : XW}
/-! ### sorted(x) of anything whose items are gathered -/
mutual
theorem reads_live {h : Heap} {a : Addr} : ∀ {v : Value} {d : PyData} {as : List Addr}, Reads h v d as → a ∈ as → ∃ o, h.get? a = some o
  | _, _, _, .none, z => by cases z
  | _, _, _, .bool _, z => by cases z
  | _, _, _, .int _ _, z => by cases z
  | _, _, _, .str _ _, z => by cases z
  | _, _, _, .list e _ _ r, z => by
    rcases List.mem_cons.mp z with rfl | z
    · exact ⟨_, e⟩
    · exact readsAll_live r z
  | _, _, _, .tuple e _ _ r, z => readsAll_live r z
  | _, _, _, .dict e _ _ r1 r2, z => by
    rcases List.mem_append.mp z with z | z
    · rcases List.mem_cons.mp z with rfl | z
      · exact ⟨_, e⟩
      · exact readsAll_live r1 z
    · exact readsAll_live r2 z
theorem readsAll_live {h : Heap} {a : Addr} : ∀ {vs : List Value} {ds : List PyData} {as : List Addr}, ReadsAll h vs ds as → a ∈ as → ∃ o, h.get? a = some o
  | _, _, _, .nil, z => by cases z
  | _, _, _, .cons r rs, z => by
    rcases List.mem_append.mp z with z | z
    · exact reads_live r z
    · exact readsAll_live rs z
end
theorem reads_of {s : Shared} {pins : List (Addr × Obj)} {σ : L2.St} {H : Hp} (I : Inv X pins σ H s) {a : Addr} (ha : s.heap.get? a = none) : ∀ {xs : List V} {ks : List PyData} {us : List Value}, DpAll X.K H xs ks → Vals xs us → PySem.W.EachIs (fun v b => ∃ as, Reads s.heap v b.2 as ∧ a ∉ as) us (xs.zip ks)
  | _, _, _, .nil, .nil => .nil
  | _, _, _, .cons d ds, .cons r rs => by
    obtain ⟨as, h⟩ := Dp.reads I _ _ _ d r
    refine .cons ⟨as, h, fun z => ?_⟩ (reads_of I ha ds rs)
    obtain ⟨o, ho⟩ := reads_live h z
    rw [ha] at ho
    cases ho
theorem sorted_col {s : Shared} {pins : List (Addr × Obj)} {σ : L2.St} {Q : VK} {v : Value} (hu : X.A.units + 64 < cLine) (ha1 : argsOk "sorted" ⟨[v], []⟩)
    (h : wpAny (model X.prog X.w) X.A.in1 (collect v) (fun its s1 => ∃ (xs : List V) (ks : List PyData) (H1 : Hp), Inv X pins σ H1 s1 ∧ Vals xs its ∧ DpAll X.K H1 xs ks ∧ PySem.W.AllAlike ks ∧ PySem.W.Sortable ks ∧ (∀ k ∈ ks, k.depth ≤ 32) ∧ xs.length ≤ sizeLine ∧ ∀ p, H1 p = none → Q (.ref p) (upd H1 p (.lst (sortBy xs ks)))) X.xe s) :
    wpAny (model X.prog X.w) X.A (call (.builtin "sorted") [v]) (EP X pins σ Q) X.xe s := by
  refine PyProof.Rows.call_function_entry_kw PyProof.Rows.kind_sorted PyProof.Rows.plain_sorted PyProof.Rows.entry_sorted ha1 ?_
  unfold Builtin.«sorted»
  refine wpAny_bind (m := checkCount "sorted" 1 1 _) (wpAny_pure ?_)
  refine wpAny_bind (wpAny_mono h (fun its s1 hq => ?_) fun _ _ e => e)
  obtain ⟨xs, ks, H1, I, rv, hd, hal, hso, hdp, hz, q⟩ := hq
  have hL : its.length ≤ sizeLine := by rw [← rv.length]; exact hz
  refine wpAny_bind (wpAny_newList ?_ hL)
  have hfr : s1.heap.get? s1.heap.objs.size = none := by
    cases e : s1.heap.get? s1.heap.objs.size with
    | none => rfl
    | some o => exact absurd (Heap.lt_size e) (Nat.lt_irrefl _)
  obtain ⟨e1, e2, e3⟩ := each_of I hd rv
  have hlen : (xs.zip ks).length = xs.length := by
    have := congrArg List.length e3
    rw [List.length_map] at this
    rw [this, dpAll_len hd]
  have er := reads_of I hfr hd rv
  have ho : (s1.heap.push (PyProof.Rows.seqObj "list" its.toArray 0)).get? s1.heap.objs.size = some (PyProof.Rows.seqObj "list" its.toArray 0) := Heap.get?_push_size _ rfl
  have er2 : PySem.W.EachIs (fun v b => ∃ as, Reads (s1.heap.push (PyProof.Rows.seqObj "list" its.toArray 0)) v b.2 as ∧ s1.heap.objs.size ∉ as) its (xs.zip ks) := er.mono fun _ _ ⟨as, r, hn⟩ => ⟨as, PyProof.Rows.Reads.keeps (fun _ _ e => Heap.get?_push_of_some _ e) r, hn⟩
  show wpAny _ _ _ _ _ { s1 with heap := s1.heap.push (PyProof.Rows.seqObj "list" its.toArray 0) }
  refine wpAny_bind (wpAny_holding (PySem.W.list_sort_data (s := { s1 with heap := s1.heap.push (PyProof.Rows.seqObj "list" its.toArray 0) }) (enc := fun b : V × PyData => b.2) (R := fun v b => RelV b.1 v) ho e1 er2 (by rw [e3]; exact hal) (by rw [e3]; exact hso) (by rw [hlen]; exact hz) (fun b hb => ?_) fun out hout hR => ?_))
  · have : b.2 ∈ ks := by rw [← e3]; exact List.mem_map.mpr ⟨b, hb, rfl⟩
    have := hdp _ this
    show X.A.in1.units + 1 + _ < cLine
    have : X.A.in1.units = X.A.units + 1 := rfl
    omega
  · obtain ⟨ep, he'⟩ := PyProof.Rows.sortedHeap_at (vs := its) (out := out.toArray) ho
    have rv2 := each_vals hR
    have old : ∀ b o, s1.heap.get? b = some o → (PyProof.Rows.sortedHeap (s1.heap.push (PyProof.Rows.seqObj "list" its.toArray 0)) s1.heap.objs.size its out.toArray).get? b = some o := fun b o e => by
      have hlt := Heap.lt_size e
      rw [PyProof.Rows.sortedHeap_old (Nat.ne_of_lt hlt) (by rw [Heap.size_push]; exact Nat.lt_succ_of_lt hlt)]
      exact Heap.get?_push_of_some _ e
    refine wpAny_pure ⟨_, rfl, .ref _, upd H1 s1.heap.objs.size (.lst (sortBy xs ks)), I.laid (t' := s1.toks) old (Nat.le_refl _) ⟨?_, out, ep, rv2, he'⟩, rfl, q _ (I.hok.fresh (Nat.le_refl _))⟩
    show (sortBy xs ks).length ≤ sizeLine
    unfold sortBy
    rw [List.length_map, List.length_mergeSort, hlen]
    exact hz
end
end M

namespace M
open PySem L2
section
variable {X : Cx} {W : XW}
/-! ### a heap that only grew -/
theorem Keep.sub {K : KX} {H H' : Hp} (h : ∀ b o, H b = some o → H' b = some o) : Keep K H H' := Keep.of fun b o e _ => h b o e
theorem Ext.sub {K : KX} {p : List Addr} {H H' : Hp} (h : ∀ b o, H b = some o → H' b = some o) : Ext K p H p H' := ⟨Pre.refl _, Keep.sub h, fun a o h1 h2 _ => ⟨h1, h a o h2⟩, fun a o u h2 => h a _ h2⟩
theorem RS.sub {K : KX} {p : List Addr} {S : Sto} {H H' : Hp} (hs : RS K p S H) (h : ∀ b o, H b = some o → H' b = some o) : RS K p S H' :=
  ⟨hs.len, hs.nd, fun n a o e1 e2 => by
    obtain ⟨x, ex, r⟩ := hs.get n a o e1 e2
    exact ⟨x, h _ _ ex, r.mono (Pre.refl _) (Keep.sub h)⟩⟩
/-! ### d.items() -/
def itemsD (kvs : List (Key × D)) : List D := kvs.map fun kv => .tup [kD kv.1, kv.2]
theorem rk_items {p : List Addr} {H H' : Hp} {kvs : List (Key × D)} {ws : List (Key × V)} {ts : List Addr} (r : RKs (gX X) p H kvs ws) (hk : Keep (gX X) H H') (hp : Paired (fun (t : Addr) (q : Key × V) => H' t = some (.tup [kV q.1, q.2])) ts ws) : RDs (gX X) p H' (itemsD kvs) (ts.map V.ref) := by
  induction hp generalizing kvs with
  | nil =>
    have : kvs = [] := by
      have := r.1
      simpa using this
    subst this
    exact rfl
  | @cons t q ts ws h _ ih =>
    cases kvs with
    | nil => have := r.1; simp at this
    | cons kv kvs =>
      obtain ⟨h1, h2⟩ := r
      rw [List.map_cons, List.map_cons] at h1
      obtain ⟨e1, e2⟩ := List.cons.inj h1
      obtain ⟨v, us, e3, r1, r2⟩ := h2
      rw [List.map_cons] at e3
      obtain ⟨e4, e5⟩ := List.cons.inj e3
      refine ⟨.ref t, _, rfl, ⟨t, _, rfl, .inl (.inl h), ?_⟩, ih ⟨e2, by rw [e5]; exact r2⟩⟩
      refine ⟨kV q.1, _, rfl, ?_, q.2, _, rfl, ?_, rfl⟩
      · rw [e1]
        cases q.1 with
        | inl i => exact rfl
        | inr x => exact rfl
      · rw [e4]; exact r1.mono (Pre.refl _) hk
def fListItems (d : D) (S : Sto) : Rs D := match d with
  | .ref n => (match S[n]? with
    | some (.dk kvs) => .ok (.ref S.length) (S ++ [.lst (itemsD kvs)])
    | _ => .bad)
  | _ => .bad
theorem me_listItems {e : Expr} {m : En → Sto → Rs D} {p apos cpos pos : Pos} (hc : X.calm = true) (he : ME X W e m) (hg : Gl X "list") (hm : X.mg "list" = none) (hbase : attributeBase e "items" X.env (eval e X.env) = eval e X.env := by rfl) (hline : (apos.endLine == cpos.line) = true := by rfl)
    (hs : starEach [.Call (.Attribute e "items" apos) [] [] cpos] X.env = (false, eval (.Call (.Attribute e "items" apos) [] [] cpos) X.env) :: starEach [] X.env := by rfl) :
    ME X W (.Call (.Name "list" p) [.Call (.Attribute e "items" apos) [] [] cpos] [] pos) (m1 fListItems m) :=
  PE.imp (LiI.pe_listItems hc he hg hm PyProof.Rows.boot_list hbase hline hs) fun σ H Q q => by
    obtain ⟨pp, S, E, hs, he, q⟩ := q
    refine lE_step hs he (post_mono (fun d S1 p1 H1 x1 hs1 q1 v rv => ?_) (post_bind q))
    unfold fListItems at q1
    split at q1
    · rename_i n
      obtain ⟨a, ea, rfl⟩ := rv
      split at q1
      · rename_i kvs hd
        obtain ⟨x, ex, ws, rfl, rk⟩ := hs1.get n a _ ea hd
        refine ⟨a, ws, rfl, ex, fun H' l ts k1 k2 k3 k4 k5 k6 => ?_⟩
        have rr := rk_items rk (Keep.sub k1) k6
        have hsp := hs1.sub k1
        have hl2 : RS (gX X) (p1 ++ [l]) (S1 ++ [.lst (itemsD kvs)]) H' := by
          have fresh : l ∉ p1 := fun hm => by
            obtain ⟨n, hn', e⟩ := List.getElem_of_mem hm
            have e1 : p1[n]? = some l := by simp [hn', e]
            have : n < S1.length := by rw [← hs1.len]; exact hn'
            obtain ⟨y, e2, _⟩ := hs1.get n l S1[n] e1 (by simp [this])
            rw [k2] at e2; cases e2
          refine ⟨by simp [hs1.len], ?_, fun n b ob e1 e2 => ?_⟩
          · rw [List.nodup_append]
            exact ⟨hs1.nd, by simp, fun x hx y hy z => fresh (by simp at hy; subst hy; subst z; exact hx)⟩
          · by_cases hl : n < p1.length
            · rw [List.getElem?_append_left hl] at e1
              rw [List.getElem?_append_left (by rw [← hs1.len]; exact hl)] at e2
              obtain ⟨y, e, r'⟩ := hsp.get n b ob e1 e2
              exact ⟨y, e, r'.mono (Pre.add _ _) (Keep.refl _)⟩
            · have hl2 : n = p1.length := by
                have := (List.getElem?_eq_some_iff.mp e1).1
                simp at this; omega
              subst hl2
              rw [List.getElem?_append_right (Nat.le_refl _)] at e1
              simp at e1; subst e1
              rw [hs1.len, List.getElem?_append_right (Nat.le_refl _)] at e2
              simp at e2; subst e2
              exact ⟨_, k5, _, rfl, rr.mono (Pre.add _ _) (Keep.refl _)⟩
        have xx : Ext (gX X) p1 H1 (p1 ++ [l]) H' := ⟨Pre.add _ _, Keep.sub k1, fun b ob h1 h2 _ => ⟨fun z => by
          rcases List.mem_append.mp z with z | z
          · exact h1 z
          · exact ne_of_none h2 k2 (by simpa using z), k1 _ _ h2⟩, fun b ob u h2 => k1 _ _ h2⟩
        exact q1 (p1 ++ [l]) H' xx hl2 (.ref l) ⟨l, by rw [← hs1.len]; simp, rfl⟩
      · exact q1.elim
    · exact q1.elim
end
end M

namespace M
open PySem L2
section
variable {X : Cx} {W : XW}
/-! ### sorted(d.items()) -/
theorem tuples_laid {pins : List (Addr × Obj)} {σ : L2.St} {H : Hp} {s : Shared} {h' : Heap} {tk : Nat} {kvs : List (Key × V)} {vs : List (Key × Value)} {as : List Addr} (I : Inv X pins σ H s) (kv : KV kvs vs)
    (hk : ∀ b o, s.heap.get? b = some o → h'.get? b = some o) (hl : as.length = vs.length) (hG : PySem.W.KdxG (mixKind X.prog X.w) vs s.heap.objs.size h' as) :
    ∃ H' : Hp, (∀ b o, H b = some o → H' b = some o) ∧ Paired (fun (t : Addr) (q : Key × V) => H' t = some (.tup [kV q.1, q.2])) as kvs ∧ Inv X pins σ H' { s with heap := h', toks := tk } := by
  have lk : kvs.length = vs.length := Paired.length kv
  have nd : as.Nodup := List.Pairwise.imp (fun {a b} (h : a < b) => Nat.ne_of_lt h) hG.rise
  have new : ∀ t ∈ as, H t = none := fun t ht => I.hok.fresh (Nat.le_of_lt (hG.above t ht))
  have atP := LiI.putT_at as kvs H (by omega) nd
  have off : ∀ b, b ∉ as → LiI.putT H as kvs b = H b := fun b h1 => by rw [LiI.putT_off as kvs _ h1]
  have low : ∀ b o, s.heap.get? b = some o → b ∉ as := fun b o e z => absurd (Heap.lt_size e) (Nat.not_lt.mpr (Nat.le_of_lt (hG.above b z)))
  have kp : ∀ b u, H b = some u → (LiI.putT H as kvs) b = some u := fun b u e => by
    rw [off b (fun z => by rw [new b z] at e; cases e)]
    exact e
  refine ⟨LiI.putT H as kvs, kp, atP, ?_⟩
  refine I.call' (ch := []) rfl ⟨fun b o q _ _ _ => hk b o q, fun b o q _ _ _ => ⟨o.slots, hk b o q⟩, fun b o q n _ => ?_, fun b o q _ => ⟨o, hk b o q⟩, fun b xs q => kp b _ q, fun b o u q => kp b _ q, fun b ps q => ⟨#[], by rw [kp b _ q]; simp⟩⟩ (fun b u q => ?_) I.bare fun b z => by simp at z
  · rw [off b (low b o q)]
    exact n
  · by_cases hb : b ∈ as
    · obtain ⟨j, pk, e1, e2, e3⟩ := LiI.paired_ix atP hb
      rw [e3] at q
      cases q
      obtain ⟨key, k, x, f1, f2, f3⟩ := hG.pairs j b e1
      obtain ⟨qv, g1, g2, g3⟩ := LiI.paired_get kv e2
      rw [f1] at g1
      cases g1
      have rk : RelV (kV pk.1) key := by
        rw [g2]
        exact relV_key (show keyIs k key = true from f2)
      exact ⟨by show 2 ≤ sizeLine; decide, [key, x], .cons rk (.cons g3 .nil), ⟨_, f3, rfl, _, rfl⟩⟩
    · rw [off b hb] at q
      exact (I.hok b u q).stay (fun d v _ y => hk d v y) (fun d y => kp d _ y) fun d xs y => kp d _ y
def tSortItems (K : PySem.W.Frag) (te : TE) : TE := fun σ H Q => te σ H fun x H1 => ∃ (d : Addr) (kvs : List (Key × V)), x = .ref d ∧ H1 d = some (.dK kvs) ∧
  ∀ (H' : Hp) (ts : List Addr), (∀ b o, H1 b = some o → H' b = some o) → Paired (fun (t : Addr) (q : Key × V) => H' t = some (.tup [kV q.1, q.2])) ts kvs →
    ∃ ks : List PyData, DpAll K H' (ts.map V.ref) ks ∧ PySem.W.AllAlike ks ∧ PySem.W.Sortable ks ∧ (∀ k ∈ ks, k.depth ≤ 32) ∧ ∀ p, H' p = none → Q (.ref p) (upd H' p (.lst (sortBy (ts.map V.ref) ks)))
theorem args_sorted1 (v : Value) : argsOk "sorted" ⟨[v], []⟩ := by unfold argsOk; kernel_rfl
theorem pe_sortItems {e : Expr} {te : TE} {p apos cpos pos : Pos} (hc : X.calm = true) (hu : X.A.units + 64 < cLine) (he : PE X e te) (hg : Gl X "sorted") (hm : X.mg "sorted" = none) (hbase : attributeBase e "items" X.env (eval e X.env) = eval e X.env := by rfl) (hline : (apos.endLine == cpos.line) = true := by rfl)
    (hs : starEach [.Call (.Attribute e "items" apos) [] [] cpos] X.env = (false, eval (.Call (.Attribute e "items" apos) [] [] cpos) X.env) :: starEach [] X.env := by rfl) :
    PE X (.Call (.Name "sorted" p) [.Call (.Attribute e "items" apos) [] [] cpos] [] pos) (tSortItems X.K te) := by
  refine ⟨fun pins s σ H Q I hq => ?_⟩
  refine wpAny_Call_Name_kw (ld_blt I hg hm PyProof.Rows.boot_sorted ?_)
  refine Calls.callWith_builtin ?_ ?_
  · rw [hs]; rfl
  rw [hs]
  refine Calls.evalArgs_plain ?_
  show wpAny _ _ (spliced ((false, eval (.Call (.Attribute e "items" apos) [] [] cpos) X.env) :: backTo pos (starEach [] X.env))) _ _ s
  refine Calls.spliced_cons ?_
  refine wpAny_Call_method (T := "dict") (id := "dict.items") hbase rfl hline F.plainAttrs_dict F.slot_dict_items F.type_dict_items (thn (he.run pins s σ H _ I hq) fun u s1 ⟨x, H1, I1, rx, d, kvs, ex, hd, q⟩ => ?_)
  subst ex
  obtain rfl : u = Value.ref d := rx
  obtain ⟨hz, hs0, vs, kv, hdo⟩ := I1.hok d _ hd
  obtain ⟨ep, hat⟩ := hdo.dictAt
  have lk : kvs.length = vs.length := Paired.length kv
  have I2 : Inv X pins σ H1 { s1 with heap := s1.heap.push { cls := .type "dict_items", data := .fields #[.ref d] } } := I1.kept (t' := s1.toks) fun b ob q => Heap.get?_push_of_some _ q
  refine ⟨hdo.typeIs, hdo.mapOf.noDict, ?_⟩
  show wpAny _ _ (callWith cpos (.builtin "dict.items") [.ref d] [] []) _ X.xe s1
  refine method_meetsIn F.slot_dict_items F.entry_dict_items rfl (PySem.evalArgs_none ⟨rfl, hdo.typeIs, F.args_dict_items_1 _, _, meets_dict_items (mixKind X.prog X.w) d hs0, ⟨vs, hdo⟩, ?_⟩)
  refine Calls.spliced_nil ?_
  refine sorted_col hu (args_sorted1 _) ?_
  refine PySem.W.kdx_collect (knd := mixKind X.prog X.w) (kvs := vs) (ep := ep) (A := X.A.in1) (I1.ok.hd hc) ⟨_, Heap.get?_push_size _ rfl, rfl, rfl⟩ (hat.push _) (by omega) fun h' tk as hk hl hG => ?_
  obtain ⟨H', k1, k6, J⟩ := tuples_laid (tk := tk) I2 kv hk hl hG
  obtain ⟨ks, d1, d2, d3, d4, d5⟩ := q H' as k1 k6
  exact ⟨as.map V.ref, ks, H', J, LiI.vals_refs as, d1, d2, d3, d4, by rw [List.length_map]; omega, d5⟩
def fSortItems (d : D) (S : Sto) : Rs D := match d with
  | .ref n => (match S[n]? with
    | some (.dk kvs) => (match sortDs (itemsD kvs) with
      | some ys => .ok (.ref S.length) (S ++ [.lst ys])
      | none => .bad)
    | _ => .bad)
  | _ => .bad
theorem sortDs_read {p : List Addr} {H : Hp} {ds ys : List D} {vs : List V} (r : RDs (gX X) p H ds vs) (h : sortDs ds = some ys) : ∃ ks, DpAll X.K H vs ks ∧ PySem.W.AllAlike ks ∧ PySem.W.Sortable ks ∧ (∀ k ∈ ks, k.depth ≤ 32) ∧ RDs (gX X) p H ys (sortBy vs ks) := by
  unfold sortDs at h
  split at h
  · rename_i ks hk
    split at h
    · rename_i hb
      cases h
      have hd : DpAll X.K H vs ks := toPysW_read (K := gX X) (fun _ _ _ z => by cases z) r hk
      obtain ⟨h1, h2, h3⟩ := sortOk_read hb
      exact ⟨ks, hd, h1, h2, h3, rds_zip r (by rw [r.length, dpAll_len hd])⟩
    · cases h
  · cases h
theorem me_sortItems {e : Expr} {m : En → Sto → Rs D} {p apos cpos pos : Pos} (hc : X.calm = true) (hu : X.A.units + 64 < cLine) (he : ME X W e m) (hg : Gl X "sorted") (hm : X.mg "sorted" = none) (hbase : attributeBase e "items" X.env (eval e X.env) = eval e X.env := by rfl) (hline : (apos.endLine == cpos.line) = true := by rfl)
    (hs : starEach [.Call (.Attribute e "items" apos) [] [] cpos] X.env = (false, eval (.Call (.Attribute e "items" apos) [] [] cpos) X.env) :: starEach [] X.env := by rfl) :
    ME X W (.Call (.Name "sorted" p) [.Call (.Attribute e "items" apos) [] [] cpos] [] pos) (m1 fSortItems m) :=
  PE.imp (pe_sortItems hc hu he hg hm hbase hline hs) fun σ H Q q => by
    obtain ⟨pp, S, E, hs, he, q⟩ := q
    refine lE_step hs he (post_mono (fun d S1 p1 H1 x1 hs1 q1 v rv => ?_) (post_bind q))
    unfold fSortItems at q1
    split at q1
    · rename_i n
      obtain ⟨a, ea, rfl⟩ := rv
      split at q1
      · rename_i kvs hd
        obtain ⟨x, ex, ws, rfl, rk⟩ := hs1.get n a _ ea hd
        split at q1
        · rename_i ys hy
          refine ⟨a, ws, rfl, ex, fun H' ts k1 k6 => ?_⟩
          obtain ⟨ks, d1, d2, d3, d4, d5⟩ := sortDs_read (rk_items rk (Keep.sub k1) k6) hy
          refine ⟨ks, d1, d2, d3, d4, fun l hl => ?_⟩
          exact new_obj (hs1.sub k1) (o := .lst ys) ⟨_, rfl, d5⟩ (post_base (Ext.sub k1) q1) hl
        · exact q1.elim
      · exact q1.elim
    · exact q1.elim
/-! ### sorted(xs) of a list by name, of a fresh list -/
def fSortL (ds : List D) (S : Sto) : Rs D := match ds with
  | [.ref n] => (match S[n]? with
    | some (.lst xs) => (match sortDs xs with
      | some ys => .ok (.ref S.length) (S ++ [.lst ys])
      | none => .bad)
    | _ => .bad)
  | _ => .bad
theorem pr_sortL : PrimN (gX X) W (rSortD X.K) fSortL := by
  intro p S H xs vs Q hs r q
  unfold fSortL at q
  split at q
  · obtain ⟨v, rfl, rv⟩ := one_of r
    obtain ⟨a, ea, rfl⟩ := rv
    split at q
    · rename_i ds hd
      obtain ⟨us, ex, rs⟩ := lst_at hs ea hd
      split at q
      · rename_i ys hy
        obtain ⟨ks, d1, d2, d3, d4, d5⟩ := sortDs_read rs hy
        exact ⟨a, us, ks, rfl, .of ex, d1, d2, d3, d4, fun l hl => new_obj hs (o := .lst ys) ⟨_, rfl, d5⟩ q hl⟩
      · exact q.elim
    · exact q.elim
  · exact q.elim
def fSortTL (ds : List D) (S : Sto) : Rs D := match sortDs ds with
  | some ys => .ok (.ref S.length) (S ++ [.lst ys])
  | none => .bad
theorem pr_sortTL : PrimTL (gX X) W (rSortD X.K) fSortTL := by
  intro p S H ds vs a Q hs r ha hz q
  unfold fSortTL at q
  split at q
  · rename_i ys hy
    have x1 : Ext (gX X) p H p (upd H a (.lst vs)) := Ext.new ha
    obtain ⟨ks, d1, d2, d3, d4, d5⟩ := sortDs_read (r.mono x1.pre x1.tup) hy
    exact ⟨a, vs, ks, rfl, .of upd_same, d1, d2, d3, d4, fun l hl => new_obj (hs.frame ha) (o := .lst ys) ⟨_, rfl, d5⟩ (post_base x1 q) hl⟩
  · exact q.elim
end
end M

namespace M
open PySem L2
section
variable {X : Cx} {W : XW}
/-! ### tuples that are known to be plain; read as tuples -/
def wk : D → D
  | .ptp ds => .tup ds
  | d => d
theorem RD.wk {K : KX} {p : List Addr} {H : Hp} {d : D} {v : V} (r : RD K p H d v) : RD K p H (wk d) v := by
  cases d with
  | ptp ds =>
    obtain ⟨a, vs, ob, rfl, e, _, rs⟩ := r
    exact ⟨a, vs, rfl, .inl (.inr ⟨ob, e⟩), rs⟩
  | _ => exact r
def mW (m : En → Sto → Rs D) : En → Sto → Rs D := fun E S => (m E S).bind fun d S1 => .ok (wk d) S1
theorem me_wk {e : Expr} {m : En → Sto → Rs D} (h : ME X W e m) : ME X W e (mW m) :=
  PE.imp h fun σ H Q q => by
    obtain ⟨p, S, E, hs, he, q⟩ := q
    refine lE_step hs he (post_mono (fun d S1 p1 H1 x1 hs1 q1 v rv => ?_) (post_bind q))
    exact post_ok q1 hs1 _ rv.wk
theorem call_tupP : CallR X (.type "tuple") (fun xs H Q => ∃ p ys, xs = [.ref p] ∧ SqL X.K H p ys ∧ ∀ l ob, H l = none → ob.dict = none → Q (.ref l) (upd H l (.frz ob (.tup ys)))) := by
  intro pins s σ H xs us Q I r h
  obtain ⟨p, ys, rfl, hs, q⟩ := h
  rw [Vals.ref1 r]
  obtain ⟨its, rv, pl, hz⟩ := I.list hs
  refine call_tuple_list pl.isList (fun h' hk => ?_) (by rw [List.size_toArray, ← rv.length]; exact hz)
  have I1 : Inv X pins σ H { s with heap := h' } := I.kept (t' := s.toks) hk
  have hn : (h'.push { cls := .type "tuple", data := .seq its.toArray }).get? h'.objs.size = some { cls := .type "tuple", data := .seq its.toArray } := Heap.get?_push_size _ rfl
  exact ⟨.ref _, _, I1.laid (t' := s.toks) (o := .frz { cls := .type "tuple", data := .seq its.toArray } (.tup ys)) (fun b o e => Heap.get?_push_of_some _ e) (Nat.le_refl _) ⟨hn, hz, its, rv, _, hn, rfl, _, rfl⟩, rfl, q _ _ (I1.hok.fresh (Nat.le_refl _)) rfl⟩
theorem new_ptp {K : KX} {p : List Addr} {S : Sto} {H : Hp} {ds : List D} {vs : List V} {Q : VK} {a : Addr} {ob : Obj} (hs : RS K p S H) (r : RDs K p H ds vs) (q : post K W p H (.ok (.ptp ds) S) (kE K Q)) (ha : H a = none) (hb : ob.dict = none) : Q (.ref a) (upd H a (.frz ob (.tup vs))) := by
  have x1 : Ext K p H p (upd H a (.frz ob (.tup vs))) := Ext.new ha
  exact q p _ x1 (hs.frame ha) (.ref a) ⟨a, vs, ob, rfl, upd_same, hb, r.mono x1.pre x1.tup⟩
def fTupPTL (ds : List D) (S : Sto) : Rs D := .ok (.ptp ds) S
theorem pr_tupPTL : PrimTL (gX X) W (fun xs H Q => ∃ p ys, xs = [.ref p] ∧ SqL X.K H p ys ∧ ∀ l ob, H l = none → ob.dict = none → Q (.ref l) (upd H l (.frz ob (.tup ys)))) fTupPTL := by
  intro p S H ds vs a Q hs r ha hz q
  refine ⟨a, vs, rfl, .of upd_same, fun l ob hl hb => ?_⟩
  have x1 : Ext (gX X) p H p (upd H a (.lst vs)) := Ext.new ha
  exact new_ptp (hs.frame ha) (r.mono x1.pre x1.tup) (post_base x1 q) hl hb
def fTupP (ds : List D) (S : Sto) : Rs D := match ds with
  | [.ref n] => (match S[n]? with
    | some (.lst xs) => .ok (.ptp xs) S
    | _ => .bad)
  | _ => .bad
theorem pr_tupP : PrimN (gX X) W (fun xs H Q => ∃ p ys, xs = [.ref p] ∧ SqL X.K H p ys ∧ ∀ l ob, H l = none → ob.dict = none → Q (.ref l) (upd H l (.frz ob (.tup ys)))) fTupP := by
  intro p S H xs vs Q hs r q
  unfold fTupP at q
  split at q
  · obtain ⟨v, rfl, rv⟩ := one_of r
    obtain ⟨a, ea, rfl⟩ := rv
    split at q
    · rename_i ds hd
      obtain ⟨us, ex, rs⟩ := lst_at hs ea hd
      exact ⟨a, us, rfl, .of ex, fun l ob hl hb => new_ptp hs rs q hl hb⟩
    · exact q.elim
  · exact q.elim
/-! ### dict(pairs) -/
def pairsK : List D → Option (List (Key × D))
  | [] => some []
  | .tup [k, v] :: r => (match toKey k, pairsK r with
    | some k, some kvs => some ((k, v) :: kvs)
    | _, _ => none)
  | _ :: _ => none
theorem pairsK_read {p : List Addr} {H : Hp} : ∀ {ds : List D} {vs : List V} {kvs : List (Key × D)}, RDs (gX X) p H ds vs → pairsK ds = some kvs → ∃ (ps : List Addr) (ws : List (Key × V)), vs = ps.map V.ref ∧ Paired (fun p kv => SqT X.K H p [kV kv.1, kv.2]) ps ws ∧ RKs (gX X) p H kvs ws
  | [], vs, kvs, r, h => by
    cases h
    cases (show vs = [] from r)
    exact ⟨[], [], rfl, .nil, rfl, rfl⟩
  | d :: ds, vs, kvs, r, h => by
    obtain ⟨v, us, rfl, rv, rr⟩ := r
    unfold pairsK at h
    split at h
    · rename_i e; cases e
    · rename_i k v' r' e
      obtain ⟨rfl, rfl⟩ := List.cons.inj e
      split at h
      · rename_i kk kvs' hk hr
        cases h
        obtain ⟨ps, ws, rfl, hp, rk⟩ := pairsK_read rr hr
        obtain ⟨a, us', rfl, ea, rs⟩ := rv
        obtain ⟨u1, u2, rfl, r1, r2⟩ := two_of rs
        have := toKey_read r1 hk
        subst this
        refine ⟨a :: ps, (kk, u2) :: ws, rfl, .cons ea hp, ?_, ?_⟩
        · simp only [List.map_cons]
          rw [rk.1]
        · exact ⟨u2, _, rfl, r2, rk.2⟩
      · cases h
    · cases h
theorem call_dictPT (hcalm : X.calm = true) : CallR X (.type "dict") (fun xs H Q => ∃ (a : Addr) (ob : Obj) (ps : List Addr) (kvs : List (Key × V)), xs = [.ref a] ∧ H a = some (.frz ob (.tup (ps.map V.ref))) ∧ ob.dict = none ∧ Paired (fun p kv => SqT X.K H p [kV kv.1, kv.2]) ps kvs ∧
    ∀ p, H p = none → Q (.ref p) (upd H p (.dK (mergeK [] kvs)))) := by
  intro pins s σ H xs us Q I r q
  obtain ⟨a, ob, ps, kvs, rfl, hq, hob, hp, q⟩ := q
  rw [Vals.ref1 r]
  obtain ⟨ho, hz, its, rv, o2, ho2, hc2, n2, hd2⟩ := I.hok a _ hq
  rw [ho] at ho2
  cases ho2
  have ei := refs_at rv
  subst ei
  rw [List.length_map] at hz
  obtain ⟨prs, rel, hl, hpr⟩ := pairs_of I hp
  have hex : ∃ ks : List Value, ks.length = prs.length ∧ ∀ (j : Nat) (q : Key × Value), prs[j]? = some q → ∃ u b, ks[j]? = some u ∧ ps[j]? = some b ∧ PyProof.Rows.IsTup s.heap b #[u, q.2] ∧ keyIs q.1 u = true := by
    clear q hob hq hz r rel hd2 hc2 rv hp
    have : ∀ (prs : List (Key × Value)) (ps : List Addr), prs.length = ps.length → (∀ (j : Nat) (q : Key × Value), prs[j]? = some q → ∃ (b : Addr) (u : Value), ps[j]? = some b ∧ PyProof.Rows.IsTup s.heap b #[u, q.2] ∧ keyIs q.1 u = true) →
        ∃ ks : List Value, ks.length = prs.length ∧ ∀ (j : Nat) (q : Key × Value), prs[j]? = some q → ∃ u b, ks[j]? = some u ∧ ps[j]? = some b ∧ PyProof.Rows.IsTup s.heap b #[u, q.2] ∧ keyIs q.1 u = true := fun prs => by
      induction prs with
      | nil => exact fun _ _ _ => ⟨[], rfl, fun j q e => by simp at e⟩
      | cons x r ih =>
        intro ps hl h
        cases ps with
        | nil => simp at hl
        | cons b bs =>
          obtain ⟨ks, e1, e2⟩ := ih bs (by simpa using hl) fun j q e => by
            have := h (j + 1) q (by simpa using e)
            simpa using this
          obtain ⟨b', u, h1, h2, h3⟩ := h 0 x rfl
          refine ⟨u :: ks, by simp [e1], fun j q e => ?_⟩
          cases j with
          | zero =>
            simp at e h1
            subst e h1
            exact ⟨u, b, rfl, rfl, h2, h3⟩
          | succ j =>
            obtain ⟨u', b'', g1, g2, g3⟩ := e2 j q (by simpa using e)
            exact ⟨u', b'', by simpa using g1, by simpa using g2, g3⟩
    exact this prs ps hl hpr
  obtain ⟨ks, hkl, hks⟩ := hex
  have hlz : (ks.zip (prs.map (·.2))).length = prs.length := by simp [hkl]
  have zget : ∀ (j : Nat) (k v : Value), (ks.zip (prs.map (·.2)))[j]? = some (k, v) → ∃ q b, prs[j]? = some q ∧ q.2 = v ∧ ps[j]? = some b ∧ PyProof.Rows.IsTup s.heap b #[k, v] ∧ keyIs q.1 k = true := fun j k v e => by
    obtain ⟨g1, g2⟩ := List.getElem?_zip_eq_some.mp e
    rw [List.getElem?_map] at g2
    cases hq : prs[j]? with
    | none => rw [hq] at g2; cases g2
    | some q =>
      rw [hq] at g2
      have g2 : q.2 = v := by simpa using g2
      obtain ⟨u, b, f1, f2, f3, f4⟩ := hks j q hq
      rw [g1] at f1
      cases f1
      subst g2
      exact ⟨q, b, rfl, rfl, f2, f3, f4⟩
  refine PySem.call_dict_pairs (knd := mixKind X.prog X.w) (kvs := prs) (PySem.PairArg.tuple (prog := X.prog) (w := X.w) a (ps.map Value.ref).toArray (fun j => ps.getD j 0) (ks.zip (prs.map (·.2)))) (I.ok.hd hcalm)
    ⟨⟨ob, n2, ho, hc2, hob, hd2⟩, by simp [hkl, hl], fun j k v e => ?_⟩ ⟨hlz.symm, fun i key v e => ?_⟩ (by rw [hlz, hl]; exact hz) fun h' tk hd' k => ?_
  · obtain ⟨q, b, g1, g2, g3, g4, g5⟩ := zget j k v e
    have hb : ps.getD j 0 = b := by rw [List.getD_eq_getElem?_getD, g3]; rfl
    refine ⟨by simp [g3], .inl ?_⟩
    show s.heap.IsTuple (ps.getD j 0) #[k, v]
    rw [hb]
    exact g4
  · obtain ⟨q, b, g1, g2, g3, g4, g5⟩ := zget i key v e
    exact ⟨q.1, by rw [g1, ← g2], g5⟩
  · have hm : (s.heap.objs.size == sysModules) = false := beq_eq_false_iff_ne.mpr (Nat.ne_of_gt I.big)
    have hlen : (mergeK [] kvs).length ≤ sizeLine := by
      refine Nat.le_trans (length_mergeK kvs []) ?_
      rw [List.length_nil, Nat.zero_add, rel.length, hl]
      exact hz
    exact ⟨.ref s.heap.objs.size, upd H s.heap.objs.size (.dK (mergeK [] kvs)), I.laid (t' := tk) (fun b o e => k b o (by simp) e) (Nat.le_refl _) (show ObjOk X.prog X.w _ _ _ (.dK (mergeK [] kvs)) from ⟨hlen, hm, merged [] prs, KV.merge rel .nil, hd'⟩), rfl, q _ (I.hok.fresh (Nat.le_refl _))⟩
def rDictP (K : PySem.W.Frag) : List V → Hp → VK → Prop := fun xs H Q =>
  (∃ (a : Addr) (ps : List Addr) (kvs : List (Key × V)), xs = [.ref a] ∧ SqL K H a (ps.map V.ref) ∧ Paired (fun p kv => SqT K H p [kV kv.1, kv.2]) ps kvs ∧ ∀ p, H p = none → Q (.ref p) (upd H p (.dK (mergeK [] kvs)))) ∨
  (∃ (a : Addr) (ob : Obj) (ps : List Addr) (kvs : List (Key × V)), xs = [.ref a] ∧ H a = some (.frz ob (.tup (ps.map V.ref))) ∧ ob.dict = none ∧ Paired (fun p kv => SqT K H p [kV kv.1, kv.2]) ps kvs ∧ ∀ p, H p = none → Q (.ref p) (upd H p (.dK (mergeK [] kvs)))) ∨
  (∃ (a : Addr) (kvs : List (Key × V)), xs = [.ref a] ∧ Rd H a (.dK kvs) ∧ ∀ p, H p = none → Q (.ref p) (upd H p (.dK kvs)))
theorem cr_dictP (hc : X.calm = true) : CallR X (.type "dict") (rDictP X.K) := (call_dictP hc).or ((call_dictPT hc).or call_dictD)
/-- dict(x) of a list or a plain tuple of pairs, of a dict -/
def fDict (ds : List D) (S : Sto) : Rs D := match ds with
  | [.ptp xs] => (match pairsK xs with
    | some kvs => .ok (.ref S.length) (S ++ [.dk (mergeD [] kvs)])
    | none => .bad)
  | [.ref n] => (match S[n]? with
    | some (.lst xs) => (match pairsK xs with
      | some kvs => .ok (.ref S.length) (S ++ [.dk (mergeD [] kvs)])
      | none => .bad)
    | some (.dk kvs) => .ok (.ref S.length) (S ++ [.dk kvs])
    | _ => .bad)
  | _ => .bad
theorem pr_dict : PrimN (gX X) W (rDictP X.K) fDict := by
  intro p S H xs vs Q hs r q
  unfold fDict at q
  split at q
  · obtain ⟨v, rfl, rv⟩ := one_of r
    obtain ⟨a, us, ob, rfl, ea, hb, rs⟩ := rv
    split at q
    · rename_i kvs hk
      obtain ⟨ps, ws, rfl, hp, rk⟩ := pairsK_read rs hk
      exact .inr (.inl ⟨a, ob, ps, ws, rfl, ea, hb, hp, fun l hl => new_obj hs (o := .dk _) ⟨_, rfl, RKs.merge (kvs := []) (ws := []) rk ⟨rfl, rfl⟩⟩ q hl⟩)
    · exact q.elim
  · obtain ⟨v, rfl, rv⟩ := one_of r
    obtain ⟨a, ea, rfl⟩ := rv
    split at q
    · rename_i ds hd
      obtain ⟨us, ex, rs⟩ := lst_at hs ea hd
      split at q
      · rename_i kvs hk
        obtain ⟨ps, ws, rfl, hp, rk⟩ := pairsK_read rs hk
        exact .inl ⟨a, ps, ws, rfl, .of ex, hp, fun l hl => new_obj hs (o := .dk _) ⟨_, rfl, RKs.merge (kvs := []) (ws := []) rk ⟨rfl, rfl⟩⟩ q hl⟩
      · exact q.elim
    · rename_i kvs hd
      obtain ⟨ws, ex, rk⟩ := dk_at hs ea (.inl hd)
      exact .inr (.inr ⟨a, ws, rfl, ex, fun l hl => new_obj hs (o := .dk _) ⟨_, rfl, rk⟩ q hl⟩)
    · exact q.elim
  · exact q.elim
theorem mss_bad {sts : List Stmt} : MSs X W sts (fun _ _ => .bad) := ⟨fun pins s σ H Z I hw => by
  obtain ⟨_, _, _, _, _, h⟩ := hw
  exact h.elim⟩
end
end M

namespace M
namespace K02
open PySem L2
abbrev prog : Program := PySem.Challenge.pw_bankloops_k02_instances
def top (i : Nat) : Stmt := prog.main.body.getD i (.Pass ⟨0, 0, 0, 0⟩)
def c_PAIRS : D := .tup [.str "sum", .str "less", .str "times", .str "most"]
abbrev s_is_whole : Stmt := top 17
theorem sc_is_whole : FnScope ["thing", "least", "most"] ["thing", "least", "most"] (defScope s_is_whole) := ⟨rfl, rfl, rfl, by decide +kernel, rfl, by decide +kernel, by decide +kernel⟩
noncomputable def b_is_whole : En → Sto → Rs Fl := sSeq (sIf (tOrM (tNotM (tV (m1 (fIsT .int) (mV 0)))) (tV (m1 (fIsT .bool) (mV 0)))) (sRet (mC (.bl false))) (sNil)) (sRet (vAnd (vOr (m2 (opIsN false) (mV 1) (mC .non)) (m2 opGe (mV 0) (mV 1))) (vOr (m2 (opIsN false) (mV 2) (mC .non)) (m2 opLe (mV 0) (mV 2)))))
noncomputable def m_is_whole : List D → Sto → Rs D := mDef 3 (b_is_whole)
theorem ok_is_whole {P : Program} {w : World} {K : PySem.W.Frag} {mg : Str → Option Value} {base : Heap} (F : ∃ fd, FunD K "is_whole" "is_whole" (defArgs s_is_whole) (defBody s_is_whole) (defScope s_is_whole) [] [] (He.ga K "is_whole") fd) (hm : mg "is_whole" = some (.ref (He.ga K "is_whole"))) (f_isinstance : mg "isinstance" = none) (f_int : mg "int" = none) (f_bool : mg "bool" = none) :
    DefAt P w K mg base 1 "is_whole" 3 m_is_whole :=
  defAt (k := 0) (mb := b_is_whole) F hm sc_is_whole (fun _ _ _ _ _ _ us hl => match us, hl with | [_, _, _], _ => rfl) fun A outer s H E hr => by
    exact mss_cons (ms_if (PW.pt (mw_or (mt_not (mt_truth (me_isT .int rfl f_isinstance (mv 0) rfl f_int PyProof.Rows.boot_int (by decide) (by decide)))) (mw_or1 (mt_truth (me_isT .bool rfl f_isinstance (mv 0) rfl f_bool PyProof.Rows.boot_bool (by decide) (by decide)))))) (mss_one (ms_ret (me_bl))) (mss_nil)) (mss_one (ms_ret (me_and (me_or (me_cmp op_isN pr_isN (mv 1) (me_non) (by rfl)) (me_one (me_cmp op_ge pr_ge (mv 0) (mv 1) (by rfl)))) (me_one (me_or (me_cmp op_isN pr_isN (mv 2) (me_non) (by rfl)) (me_one (me_cmp op_le pr_le (mv 0) (mv 2) (by rfl))))))))
abbrev s_values_of : Stmt := top 18
theorem sc_values_of : FnScope ["loop"] ["loop"] (defScope s_values_of) := ⟨rfl, rfl, rfl, by decide +kernel, rfl, by decide +kernel, by decide +kernel⟩
noncomputable def b_values_of : En → Sto → Rs Fl := sRet (mN fLstRg (aCons (m2 opIx (mV 0) (mC (.int 1))) (aCons (m2 opIx (mV 0) (mC (.int 2))) (aCons (m2 opIx (mV 0) (mC (.int 3))) (aNil)))))
noncomputable def m_values_of : List D → Sto → Rs D := mDef 1 (b_values_of)
theorem ok_values_of {P : Program} {w : World} {K : PySem.W.Frag} {mg : Str → Option Value} {base : Heap} (F : ∃ fd, FunD K "values_of" "values_of" (defArgs s_values_of) (defBody s_values_of) (defScope s_values_of) [] [] (He.ga K "values_of") fd) (hm : mg "values_of" = some (.ref (He.ga K "values_of"))) (f_list : mg "list" = none) (f_range : mg "range" = none) :
    DefAt P w K mg base 1 "values_of" 1 m_values_of :=
  defAt (k := 0) (mb := b_values_of) F hm sc_values_of (fun _ _ _ _ _ _ us hl => match us, hl with | [_], _ => rfl) fun A outer s H E hr => by
    exact mss_one (ms_ret (me_lstRg rfl rfl f_list rfl f_range (ma_cons (me_ix (or_ix (hu_of hr)) pr_ix (mv 0) (me_int) (fun _ _ => rfl)) (ma_cons (me_ix (or_ix (hu_of hr)) pr_ix (mv 0) (me_int) (fun _ _ => rfl)) (ma_cons (me_ix (or_ix (hu_of hr)) pr_ix (mv 0) (me_int) (fun _ _ => rfl)) (ma_nil))))))
abbrev s_point_at : Stmt := top 21
theorem sc_point_at : FnScope ["nest", "at", "found", "loop", "values"] ["nest", "at"] (defScope s_point_at) := ⟨rfl, rfl, rfl, by decide +kernel, rfl, by decide +kernel, by decide +kernel⟩
noncomputable def w_point_at_2 : En → Sto → Rs Fl := sSeq (sAsg (mN (mCl 1 m_values_of) (aCons (mV 3) (aNil))) (gN 4)) (sSeq (sExpr (mMeth fInsert (mV 2) (aCons (mC (.int 0)) (aCons (m2 opIx (mV 4) (m2 opMod (mV 1) (mN fLen (aCons (mV 4) (aNil))))) (aNil))))) (sAug 1 (mN fLen (aCons (mV 4) (aNil))) opFdiv))
noncomputable def b_point_at : En → Sto → Rs Fl := sSeq (sAsg (mLst (aNil)) (gN 2)) (sSeq (sFor (iA (m1 (fRev 0) (m2 opIx (mV 0) (mC (.int 1))))) (gN 3) (w_point_at_2)) (sRet (mN fTup (aCons (mV 2) (aNil)))))
noncomputable def m_point_at : List D → Sto → Rs D := mDef 5 (b_point_at)
theorem ok_point_at {P : Program} {w : World} {K : PySem.W.Frag} {mg : Str → Option Value} {base : Heap} (F : ∃ fd, FunD K "point_at" "point_at" (defArgs s_point_at) (defBody s_point_at) (defScope s_point_at) [] [] (He.ga K "point_at") fd) (hm : mg "point_at" = some (.ref (He.ga K "point_at"))) (D_values_of : DefAt P w K mg base 1 "values_of" 1 m_values_of) (f_len : mg "len" = none) (f_tuple : mg "tuple" = none) :
    DefAt P w K mg base 2 "point_at" 2 m_point_at :=
  defAt (k := 1) (mb := b_point_at) F hm sc_point_at (fun _ _ _ _ _ _ us hl => match us, hl with | [_, _], _ => rfl) fun A outer s H E hr => by
    exact mss_cons (ms_set (i := 2) sc_point_at.nd rfl (by first | exact Or.inl rfl | exact Or.inr rfl) (me_lst (ma_nil))) (mss_cons (ms_for PassesOwn.never rfl (mi_any (me_rev (me_ix (or_ix (hu_of hr)) pr_ix (mv 0) (me_int) (fun _ _ => rfl)))) (mg_name (i := 3) sc_point_at.nd rfl (by first | exact Or.inl rfl | exact Or.inr rfl)) (mss_cons (ms_set (i := 4) sc_point_at.nd rfl (by first | exact Or.inl rfl | exact Or.inr rfl) (me_cl D_values_of hr (by decide) rfl (ma_cons (mv 3) (ma_nil)))) (mss_cons (ms_expr (me_meth PySem.F.slot_list_insert PySem.F.type_list_insert mt_insert pr_insert (mv 2) (ma_cons (me_int) (ma_cons (me_ix (or_ix (hu_of hr)) pr_ix (mv 4) (me_op op_mod pr_mod (mv 1) (me_callB cr_len pr_len rfl f_len PySem.boot_len (ma_cons (mv 4) (ma_nil)))) (fun _ _ => rfl)) (ma_nil))))) (mss_one (ms_aug (i := 1) pr_fdiv sc_point_at.nd rfl (by first | exact Or.inl rfl | exact Or.inr rfl) (me_callB cr_len pr_len rfl f_len PySem.boot_len (ma_cons (mv 4) (ma_nil))) iop_fdiv))))) (mss_one (ms_ret (me_callTy call_tuple_of pr_tup rfl f_tuple PyProof.Rows.boot_tuple (ma_cons (mv 2) (ma_nil))))))
abbrev s_how_many : Stmt := top 22
theorem sc_how_many : FnScope ["nest", "found", "loop"] ["nest"] (defScope s_how_many) := ⟨rfl, rfl, rfl, by decide +kernel, rfl, by decide +kernel, by decide +kernel⟩
noncomputable def w_how_many_2 : En → Sto → Rs Fl := sAug 1 (mN fLen (aCons (mN (mCl 1 m_values_of) (aCons (mV 2) (aNil))) (aNil))) opMul
noncomputable def b_how_many : En → Sto → Rs Fl := sSeq (sAsg (mN fLen (aCons (m2 opIx (mV 0) (mC (.int 2))) (aNil))) (gN 1)) (sSeq (sFor (iA (m2 opIx (mV 0) (mC (.int 1)))) (gN 2) (w_how_many_2)) (sRet (mV 1)))
noncomputable def m_how_many : List D → Sto → Rs D := mDef 3 (b_how_many)
theorem ok_how_many {P : Program} {w : World} {K : PySem.W.Frag} {mg : Str → Option Value} {base : Heap} (F : ∃ fd, FunD K "how_many" "how_many" (defArgs s_how_many) (defBody s_how_many) (defScope s_how_many) [] [] (He.ga K "how_many") fd) (hm : mg "how_many" = some (.ref (He.ga K "how_many"))) (f_len : mg "len" = none) (D_values_of : DefAt P w K mg base 1 "values_of" 1 m_values_of) :
    DefAt P w K mg base 2 "how_many" 1 m_how_many :=
  defAt (k := 1) (mb := b_how_many) F hm sc_how_many (fun _ _ _ _ _ _ us hl => match us, hl with | [_], _ => rfl) fun A outer s H E hr => by
    exact mss_cons (ms_set (i := 1) sc_how_many.nd rfl (by first | exact Or.inl rfl | exact Or.inr rfl) (me_callB cr_len pr_len rfl f_len PySem.boot_len (ma_cons (me_ix (or_ix (hu_of hr)) pr_ix (mv 0) (me_int) (fun _ _ => rfl)) (ma_nil)))) (mss_cons (ms_for PassesOwn.never rfl (mi_any (me_ix (or_ix (hu_of hr)) pr_ix (mv 0) (me_int) (fun _ _ => rfl))) (mg_name (i := 2) sc_how_many.nd rfl (by first | exact Or.inl rfl | exact Or.inr rfl)) (mss_one (ms_aug (i := 1) pr_mul sc_how_many.nd rfl (by first | exact Or.inl rfl | exact Or.inr rfl) (me_callB cr_len pr_len rfl f_len PySem.boot_len (ma_cons (me_cl D_values_of hr (by decide) rfl (ma_cons (mv 2) (ma_nil))) (ma_nil))) iop_mul))) (mss_one (ms_ret (mv 1))))
abbrev s_instance_of : Stmt := top 23
theorem sc_instance_of : FnScope ["nest", "n"] ["nest", "n"] (defScope s_instance_of) := ⟨rfl, rfl, rfl, by decide +kernel, rfl, by decide +kernel, by decide +kernel⟩
noncomputable def b_instance_of : En → Sto → Rs Fl := sSeq (sIf (tNotM (tV (mN (mCl 3 m_is_whole) (aCons (mV 1) (aCons (mC (.int 0)) (aCons (m2 opSub (mN (mCl 1 m_how_many) (aCons (mV 0) (aNil))) (mC (.int 1))) (aNil))))))) (sExc "NoInstance") (sNil)) (sRet (mTup (aCons (mN (mCl 2 m_point_at) (aCons (mV 0) (aCons (m2 opFdiv (mV 1) (mN fLen (aCons (m2 opIx (mV 0) (mC (.int 2))) (aNil)))) (aNil)))) (aCons (m2 opMod (mV 1) (mN fLen (aCons (m2 opIx (mV 0) (mC (.int 2))) (aNil)))) (aNil)))))
noncomputable def m_instance_of : List D → Sto → Rs D := mDef 2 (b_instance_of)
theorem ok_instance_of {P : Program} {w : World} {K : PySem.W.Frag} {mg : Str → Option Value} {base : Heap} (F : ∃ fd, FunD K "instance_of" "instance_of" (defArgs s_instance_of) (defBody s_instance_of) (defScope s_instance_of) [] [] (He.ga K "instance_of") fd) (hm : mg "instance_of" = some (.ref (He.ga K "instance_of"))) (D_is_whole : DefAt P w K mg base 1 "is_whole" 3 m_is_whole) (D_how_many : DefAt P w K mg base 2 "how_many" 1 m_how_many) (g_NoInstance : mg "NoInstance" = some (.ref (He.ga K "NoInstance"))) (e_NoInstance : PySem.W.excIn K (He.ga K "NoInstance") He.veBase "ValueError.__new__" = true ∧ PySem.W.keepIn K (.ref (He.ga K "NoInstance")) = true ∧ PySem.W.subIn K (.ref (He.ga K "NoInstance")) (.type "BaseException") = some true ∧ PySem.W.typeIn K (.ref (He.ga K "NoInstance")) = some (.type "type")) (f_len : mg "len" = none) (D_point_at : DefAt P w K mg base 2 "point_at" 2 m_point_at) :
    DefXK P w K mg base 3 "instance_of" s_instance_of ["nest", "n"] m_instance_of :=
  defAtXK (k := 2) (mb := b_instance_of) F hm sc_instance_of (fun _ _ _ _ _ _ us hl => match us, hl with | [_, _], _ => rfl) fun A outer s H E hr => by
    exact mss_cons (ms_if (mt_not (mt_truth (me_cl D_is_whole hr (by decide) rfl (ma_cons (mv 1) (ma_cons (me_int) (ma_cons (me_op op_sub pr_sub (me_cl D_how_many hr (by decide) rfl (ma_cons (mv 0) (ma_nil))) (me_int)) (ma_nil))))))) (mss_one (ms_raise rfl takes_cx e_NoInstance g_NoInstance rfl)) (mss_nil)) (mss_one (ms_ret (me_tup (ma_cons (me_cl D_point_at hr (by decide) rfl (ma_cons (mv 0) (ma_cons (me_op op_fdiv pr_fdiv (mv 1) (me_callB cr_len pr_len rfl f_len PySem.boot_len (ma_cons (me_ix (or_ix (hu_of hr)) pr_ix (mv 0) (me_int) (fun _ _ => rfl)) (ma_nil)))) (ma_nil)))) (ma_cons (me_op op_mod pr_mod (mv 1) (me_callB cr_len pr_len rfl f_len PySem.boot_len (ma_cons (me_ix (or_ix (hu_of hr)) pr_ix (mv 0) (me_int) (fun _ _ => rfl)) (ma_nil)))) (ma_nil))))))
abbrev s_done_at : Stmt := top 24
theorem sc_done_at : FnScope ["nest", "n", "point", "number"] ["nest", "n"] (defScope s_done_at) := ⟨rfl, rfl, rfl, by decide +kernel, rfl, by decide +kernel, by decide +kernel⟩
noncomputable def b_done_at : En → Sto → Rs Fl := sSeq (sAsg (mN (mClX 2 m_instance_of) (aCons (mV 0) (aCons (mV 1) (aNil)))) (gT 2 (gCons (gN 2) (gCons (gN 3) (gNil))))) (sRet (mTup (aCons (mV 2) (aCons (m2 opIx (m2 opIx (mV 0) (mC (.int 2))) (mV 3)) (aNil)))))
noncomputable def m_done_at : List D → Sto → Rs D := mDef 4 (b_done_at)
theorem ok_done_at {P : Program} {w : World} {K : PySem.W.Frag} {mg : Str → Option Value} {base : Heap} (F : ∃ fd, FunD K "done_at" "done_at" (defArgs s_done_at) (defBody s_done_at) (defScope s_done_at) [] [] (He.ga K "done_at") fd) (hm : mg "done_at" = some (.ref (He.ga K "done_at"))) (DX_instance_of : DefX P w K mg base 3 "instance_of" 2 m_instance_of) :
    DefXK P w K mg base 4 "done_at" s_done_at ["nest", "n"] m_done_at :=
  defAtXK (k := 3) (mb := b_done_at) F hm sc_done_at (fun _ _ _ _ _ _ us hl => match us, hl with | [_, _], _ => rfl) fun A outer s H E hr => by
    exact mss_cons (ms_asg (me_clX DX_instance_of hr (by decide) rfl takes_cx (ma_cons (mv 0) (ma_cons (mv 1) (ma_nil)))) (mg_tup rfl (mgs_cons (mg_name (i := 2) sc_done_at.nd rfl (by first | exact Or.inl rfl | exact Or.inr rfl)) (mgs_cons (mg_name (i := 3) sc_done_at.nd rfl (by first | exact Or.inl rfl | exact Or.inr rfl)) (mgs_nil))))) (mss_one (ms_ret (me_tup (ma_cons (mv 2) (ma_cons (me_ix (or_ix (hu_of hr)) pr_ix (me_ix (or_ix (hu_of hr)) pr_ix (mv 0) (me_int) (fun _ _ => rfl)) (mv 3) (fun _ _ => rfl)) (ma_nil))))))
abbrev s_cell_of : Stmt := top 25
theorem sc_cell_of : FnScope ["nest", "table", "places", "point", "told", "row", "loop", "value", "number", "factors", "name", "factor"] ["nest", "table", "places", "point"] (defScope s_cell_of) := ⟨rfl, rfl, rfl, by decide +kernel, rfl, by decide +kernel, by decide +kernel⟩
noncomputable def b_cell_of : En → Sto → Rs Fl := sSeq (sAsg (mAdD (mCompD (iZpS (aCons (m2 opIx (mV 0) (mC (.int 1))) (aCons (mV 3) (aNil)))) [6, 7] (gT 2 (gCons (gN 6) (gCons (gN 7) (gNil)))) (tYesM) (m2 opIx (mV 6) (mC (.int 0))) (mV 7))) (gN 4)) (sSeq (sAsg (mAd (mComp (iA (mV 2)) [8, 9] (gT 2 (gCons (gN 8) (gCons (gN 9) (gNil)))) (tYesM) (m2 opAdd (mV 8) (mTL fSum (mComp (iA (mV 9)) [10, 11] (gT 2 (gCons (gN 10) (gCons (gN 11) (gNil)))) (tYesM) (m2 opMul (m2 opIx (mV 4) (mV 10)) (mV 11))))))) (gN 5)) (sRet (mTup (aCons (mV 1) (aCons (mN fTup (aCons (mV 5) (aNil))) (aNil))))))
noncomputable def m_cell_of : List D → Sto → Rs D := mDef 12 (b_cell_of)
theorem ok_cell_of {P : Program} {w : World} {K : PySem.W.Frag} {mg : Str → Option Value} {base : Heap} (F : ∃ fd, FunD K "cell_of" "cell_of" (defArgs s_cell_of) (defBody s_cell_of) (defScope s_cell_of) [] [] (He.ga K "cell_of") fd) (hm : mg "cell_of" = some (.ref (He.ga K "cell_of"))) (f_zip : mg "zip" = none) (f_sum : mg "sum" = none) (f_tuple : mg "tuple" = none) :
    DefAt P w K mg base 1 "cell_of" 4 m_cell_of :=
  defAt (k := 0) (mb := b_cell_of) F hm sc_cell_of (fun _ _ _ _ _ _ us hl => match us, hl with | [_, _, _, _], _ => rfl) fun A outer s H E hr => by
    exact mss_cons (ms_set (i := 4) sc_cell_of.nd rfl (by first | exact Or.inl rfl | exact Or.inr rfl) (me_adD (td_dc (own := [("loop", 6), ("value", 7)]) rfl sc_cell_of.nd (mi_zipS rfl f_zip (ma_cons (me_ix (or_ix (hu_of hr)) pr_ix (mv 0) (me_int) (fun _ _ => rfl)) (ma_cons (mv 3) (ma_nil)))) (blkOk_by (by kernel_rfl)) (fun _ _ _ _ _ => mgo_tup rfl (mgos_cons (mgo_name (i := 6) (by decide) sc_cell_of.nd rfl (by first | exact Or.inl rfl | exact Or.inr rfl)) (mgos_cons (mgo_name (i := 7) (by decide) sc_cell_of.nd rfl (by first | exact Or.inl rfl | exact Or.inr rfl)) (mgos_nil)))) (fun _ _ _ _ _ => mts_nil) (fun _ _ _ _ _ => me_ix (or_ix (hu_of hr)) pr_ix (mv 6) (me_int) (fun _ _ => rfl)) (fun _ _ _ _ _ => mv 7)))) (mss_cons (ms_setLc (i := 5) (own := [("number", 8), ("factors", 9)]) rfl sc_cell_of.nd rfl rfl (sw_true rfl rfl rfl (by kernel_rfl)) (mi_any (mv 2)) (blkOk_by (by kernel_rfl)) (fun _ _ _ _ _ => mgo_tup rfl (mgos_cons (mgo_name (i := 8) (by decide) sc_cell_of.nd rfl (by first | exact Or.inl rfl | exact Or.inr rfl)) (mgos_cons (mgo_name (i := 9) (by decide) sc_cell_of.nd rfl (by first | exact Or.inl rfl | exact Or.inr rfl)) (mgos_nil)))) (fun _ _ _ _ _ => mts_nil) (fun _ _ _ _ _ => me_op or_add pr_add (mv 8) (me_tlB (cr_sum rfl) pr_sumTL rfl f_sum PyProof.Rows.boot_sum (tl_lc (own := [("name", 10), ("factor", 11)]) rfl sc_cell_of.nd (mi_any (mv 9)) (blkOk_by (by kernel_rfl)) (fun _ _ _ _ _ => mgo_tup rfl (mgos_cons (mgo_name (i := 10) (by decide) sc_cell_of.nd rfl (by first | exact Or.inl rfl | exact Or.inr rfl)) (mgos_cons (mgo_name (i := 11) (by decide) sc_cell_of.nd rfl (by first | exact Or.inl rfl | exact Or.inr rfl)) (mgos_nil)))) (fun _ _ _ _ _ => mts_nil) (fun _ _ _ _ _ => me_op op_mul pr_mul (me_ix (or_ix (hu_of hr)) pr_ix (mv 4) (mv 10) (fun _ _ => rfl)) (mv 11)))))) (mss_one (ms_ret (me_tup (ma_cons (mv 1) (ma_cons (me_callTy call_tuple_of pr_tup rfl f_tuple PyProof.Rows.boot_tuple (ma_cons (mv 5) (ma_nil))) (ma_nil)))))))
abbrev s_writes_of : Stmt := top 27
theorem sc_writes_of : FnScope ["nest", "n", "point", "word", "table", "places", "value"] ["nest", "n"] (defScope s_writes_of) := ⟨rfl, rfl, rfl, by decide +kernel, rfl, by decide +kernel, by decide +kernel⟩
noncomputable def b_writes_of : En → Sto → Rs Fl := sSeq (sAsg (mN (mClX 2 m_done_at) (aCons (mV 0) (aCons (mV 1) (aNil)))) (gT 2 (gCons (gN 2) (gCons (gT 4 (gCons (gN 3) (gCons (gN 4) (gCons (gN 5) (gCons (gN 6) (gNil)))))) (gNil))))) (sRet (mN (mCl 4 m_cell_of) (aCons (mV 0) (aCons (mV 4) (aCons (mV 5) (aCons (mV 2) (aNil)))))))
noncomputable def m_writes_of : List D → Sto → Rs D := mDef 7 (b_writes_of)
theorem ok_writes_of {P : Program} {w : World} {K : PySem.W.Frag} {mg : Str → Option Value} {base : Heap} (F : ∃ fd, FunD K "writes_of" "writes_of" (defArgs s_writes_of) (defBody s_writes_of) (defScope s_writes_of) [] [] (He.ga K "writes_of") fd) (hm : mg "writes_of" = some (.ref (He.ga K "writes_of"))) (DX_done_at : DefX P w K mg base 4 "done_at" 2 m_done_at) (D_cell_of : DefAt P w K mg base 1 "cell_of" 4 m_cell_of) :
    DefXK P w K mg base 5 "writes_of" s_writes_of ["nest", "n"] m_writes_of :=
  defAtXK (k := 4) (mb := b_writes_of) F hm sc_writes_of (fun _ _ _ _ _ _ us hl => match us, hl with | [_, _], _ => rfl) fun A outer s H E hr => by
    exact mss_cons (ms_asg (me_clX DX_done_at hr (by decide) rfl takes_cx (ma_cons (mv 0) (ma_cons (mv 1) (ma_nil)))) (mg_tup rfl (mgs_cons (mg_name (i := 2) sc_writes_of.nd rfl (by first | exact Or.inl rfl | exact Or.inr rfl)) (mgs_cons (mg_tup rfl (mgs_cons (mg_name (i := 3) sc_writes_of.nd rfl (by first | exact Or.inl rfl | exact Or.inr rfl)) (mgs_cons (mg_name (i := 4) sc_writes_of.nd rfl (by first | exact Or.inl rfl | exact Or.inr rfl)) (mgs_cons (mg_name (i := 5) sc_writes_of.nd rfl (by first | exact Or.inl rfl | exact Or.inr rfl)) (mgs_cons (mg_name (i := 6) sc_writes_of.nd rfl (by first | exact Or.inl rfl | exact Or.inr rfl)) (mgs_nil)))))) (mgs_nil))))) (mss_one (ms_ret (me_cl D_cell_of hr (by decide) rfl (ma_cons (mv 0) (ma_cons (mv 4) (ma_cons (mv 5) (ma_cons (mv 2) (ma_nil))))))))
abbrev s_ats_of : Stmt := top 19
theorem sc_ats_of : FnScope ["value", "part", "one"] ["value"] (defScope s_ats_of) := ⟨rfl, rfl, rfl, by decide +kernel, rfl, by decide +kernel, by decide +kernel⟩
noncomputable def b_ats_of (rec : List D → Sto → Rs D) : En → Sto → Rs Fl := sSeq (sIf (tB (m2 opEq (m2 opIx (mV 0) (mC (.int 0))) (mC (.str "at")))) (sRet (mLst (aCons (mV 0) (aNil)))) (sNil)) (sRet (mIfE (tB (m2 opIn (m2 opIx (mV 0) (mC (.int 0))) (mC c_PAIRS))) (mLc2 (iA (mSl (mV 0) (oSome (mC (.int 1))) (oNone))) [1, 2] (gN 1) (tYesM) (iA (mN (mCl 1 rec) (aCons (mV 1) (aNil)))) [2] (gN 2) (tYesM) (mV 2)) (mLst (aNil))))
noncomputable def m_ats_of : Nat → List D → Sto → Rs D
  | 0 => mDef 3 (fun _ _ => .bad)
  | n + 1 => mDef 3 (b_ats_of (m_ats_of n))
theorem ok_ats_of {P : Program} {w : World} {K : PySem.W.Frag} {mg : Str → Option Value} {base : Heap} (F : ∃ fd, FunD K "ats_of" "ats_of" (defArgs s_ats_of) (defBody s_ats_of) (defScope s_ats_of) [] [] (He.ga K "ats_of") fd) (hm : mg "ats_of" = some (.ref (He.ga K "ats_of"))) (hg_PAIRS : ∃ a, mg "PAIRS" = some (.ref a) ∧ ∀ p H, RD ⟨K, P, w⟩ p H c_PAIRS (.ref a)) : ∀ n : Nat, DefAt P w K mg base (1 + n) "ats_of" 1 (m_ats_of n)
  | 0 => defAt (k := 0) (mb := fun _ _ => .bad) F hm sc_ats_of (fun _ _ _ _ _ _ us hl => match us, hl with | [_], _ => rfl) fun A outer s H E hr => mss_bad
  | n + 1 => by
    have D_rec := ok_ats_of (P := P) (w := w) (base := base) F hm hg_PAIRS n
    exact defAt (k := 1 + n) (mb := b_ats_of (m_ats_of n)) F hm sc_ats_of (fun _ _ _ _ _ _ us hl => match us, hl with | [_], _ => rfl) fun A outer s H E hr => by
      exact mss_cons (ms_if (mt_cmp (or_eq hr.units) pr_eq (me_ix (or_ix (hu_of hr)) pr_ix (mv 0) (me_int) (fun _ _ => rfl)) (me_str) (by rfl)) (mss_one (ms_ret (me_lst (ma_cons (mv 0) (ma_nil))))) (mss_nil)) (mss_one (ms_ret (me_if (mt_cmp (or_in (hu_of hr)) pr_in (me_ix (or_ix (hu_of hr)) pr_ix (mv 0) (me_int) (fun _ _ => rfl)) (me_gl hg_PAIRS rfl) (by rfl)) (me_lc2 (own := [("part", 1), ("one", 2)]) (vs1 := [2]) rfl sc_ats_of.nd (mi_any (me_slice (mv 0) (mo_some (me_int)) (mo_none))) (blkOk_by (by kernel_rfl)) (by decide) (fun _ _ _ _ _ => mgo_name (i := 1) (by decide) sc_ats_of.nd rfl (by first | exact Or.inl rfl | exact Or.inr rfl)) (fun _ _ _ _ _ => mts_nil) (fun _ _ _ _ _ => mi_any (me_cl D_rec hr (Nat.le_refl _) rfl (ma_cons (mv 1) (ma_nil)))) (fun _ _ _ _ _ => mgo_name (i := 2) (by decide) sc_ats_of.nd rfl (by first | exact Or.inl rfl | exact Or.inr rfl)) (fun _ _ _ _ _ => mts_nil) (fun _ _ _ _ _ => mv 2)) (me_lst (ma_nil)))))
abbrev s_reads_of : Stmt := top 26
theorem sc_reads_of : FnScope ["nest", "n", "found", "point", "word", "table", "places", "value", "one"] ["nest", "n"] (defScope s_reads_of) := ⟨rfl, rfl, rfl, by decide +kernel, rfl, by decide +kernel, by decide +kernel⟩
noncomputable def b_reads_of : En → Sto → Rs Fl := sSeq (sAsg (mN (mClX 2 m_done_at) (aCons (mV 0) (aCons (mV 1) (aNil)))) (gT 2 (gCons (gN 3) (gCons (gT 4 (gCons (gN 4) (gCons (gN 5) (gCons (gN 6) (gCons (gN 7) (gNil)))))) (gNil))))) (sSeq (sAsg (mAd (mComp (iA (mN (mCl 1 (m_ats_of 8)) (aCons (mV 7) (aNil)))) [8] (gN 8) (tYesM) (mN (mCl 4 m_cell_of) (aCons (mV 0) (aCons (m2 opIx (mV 8) (mC (.int 1))) (aCons (m2 opIx (mV 8) (mC (.int 2))) (aCons (mV 3) (aNil)))))))) (gN 2)) (sRet (mN fTup (aCons (m2 opAdd (mV 2) (mIfE (tB (m2 opEq (mV 4) (mC (.str "add")))) (mLst (aCons (mN (mCl 4 m_cell_of) (aCons (mV 0) (aCons (mV 5) (aCons (mV 6) (aCons (mV 3) (aNil)))))) (aNil))) (mLst (aNil)))) (aNil)))))
noncomputable def m_reads_of : List D → Sto → Rs D := mDef 9 (b_reads_of)
theorem ok_reads_of {P : Program} {w : World} {K : PySem.W.Frag} {mg : Str → Option Value} {base : Heap} (F : ∃ fd, FunD K "reads_of" "reads_of" (defArgs s_reads_of) (defBody s_reads_of) (defScope s_reads_of) [] [] (He.ga K "reads_of") fd) (hm : mg "reads_of" = some (.ref (He.ga K "reads_of"))) (DX_done_at : DefX P w K mg base 4 "done_at" 2 m_done_at) (D_ats_of : DefAt P w K mg base 9 "ats_of" 1 (m_ats_of 8)) (D_cell_of : DefAt P w K mg base 1 "cell_of" 4 m_cell_of) (f_tuple : mg "tuple" = none) :
    DefXK P w K mg base 10 "reads_of" s_reads_of ["nest", "n"] m_reads_of :=
  defAtXK (k := 9) (mb := b_reads_of) F hm sc_reads_of (fun _ _ _ _ _ _ us hl => match us, hl with | [_, _], _ => rfl) fun A outer s H E hr => by
    exact mss_cons (ms_asg (me_clX DX_done_at hr (by decide) rfl takes_cx (ma_cons (mv 0) (ma_cons (mv 1) (ma_nil)))) (mg_tup rfl (mgs_cons (mg_name (i := 3) sc_reads_of.nd rfl (by first | exact Or.inl rfl | exact Or.inr rfl)) (mgs_cons (mg_tup rfl (mgs_cons (mg_name (i := 4) sc_reads_of.nd rfl (by first | exact Or.inl rfl | exact Or.inr rfl)) (mgs_cons (mg_name (i := 5) sc_reads_of.nd rfl (by first | exact Or.inl rfl | exact Or.inr rfl)) (mgs_cons (mg_name (i := 6) sc_reads_of.nd rfl (by first | exact Or.inl rfl | exact Or.inr rfl)) (mgs_cons (mg_name (i := 7) sc_reads_of.nd rfl (by first | exact Or.inl rfl | exact Or.inr rfl)) (mgs_nil)))))) (mgs_nil))))) (mss_cons (ms_setLc (i := 2) (own := [("one", 8)]) rfl sc_reads_of.nd rfl rfl (sw_true rfl rfl rfl (by kernel_rfl)) (mi_any (me_cl D_ats_of hr (by decide) rfl (ma_cons (mv 7) (ma_nil)))) (blkOk_by (by kernel_rfl)) (fun _ _ _ _ _ => mgo_name (i := 8) (by decide) sc_reads_of.nd rfl (by first | exact Or.inl rfl | exact Or.inr rfl)) (fun _ _ _ _ _ => mts_nil) (fun _ _ _ _ _ => me_cl D_cell_of hr (by decide) rfl (ma_cons (mv 0) (ma_cons (me_ix (or_ix (hu_of hr)) pr_ix (mv 8) (me_int) (fun _ _ => rfl)) (ma_cons (me_ix (or_ix (hu_of hr)) pr_ix (mv 8) (me_int) (fun _ _ => rfl)) (ma_cons (mv 3) (ma_nil))))))) (mss_one (ms_ret (me_callTy call_tuple_of pr_tup rfl f_tuple PyProof.Rows.boot_tuple (ma_cons (me_op or_add pr_add (mv 2) (me_if (mt_cmp (or_eq hr.units) pr_eq (mv 4) (me_str) (by rfl)) (me_lst (ma_cons (me_cl D_cell_of hr (by decide) rfl (ma_cons (mv 0) (ma_cons (mv 5) (ma_cons (mv 6) (ma_cons (mv 3) (ma_nil)))))) (ma_nil))) (me_lst (ma_nil)))) (ma_nil))))))
abbrev s_points_of : Stmt := top 20
theorem sc_points_of : FnScope ["nest", "rows", "loop", "row", "value"] ["nest"] (defScope s_points_of) := ⟨rfl, rfl, rfl, by decide +kernel, rfl, by decide +kernel, by decide +kernel⟩
noncomputable def w_points_of_2 : En → Sto → Rs Fl := sAsg (mLc2 (iA (mV 1)) [3, 4] (gN 3) (tYesM) (iA (mN (mCl 1 m_values_of) (aCons (mV 2) (aNil)))) [4] (gN 4) (tYesM) (m2 opAdd (mV 3) (mTup (aCons (mV 4) (aNil))))) (gN 1)
noncomputable def b_points_of : En → Sto → Rs Fl := sSeq (sAsg (mLst (aCons (mTup (aNil)) (aNil))) (gN 1)) (sSeq (sFor (iA (m2 opIx (mV 0) (mC (.int 1)))) (gN 2) (w_points_of_2)) (sRet (mN fTup (aCons (mV 1) (aNil)))))
noncomputable def m_points_of : List D → Sto → Rs D := mDef 5 (b_points_of)
theorem ok_points_of {P : Program} {w : World} {K : PySem.W.Frag} {mg : Str → Option Value} {base : Heap} (F : ∃ fd, FunD K "points_of" "points_of" (defArgs s_points_of) (defBody s_points_of) (defScope s_points_of) [] [] (He.ga K "points_of") fd) (hm : mg "points_of" = some (.ref (He.ga K "points_of"))) (D_values_of : DefAt P w K mg base 1 "values_of" 1 m_values_of) (f_tuple : mg "tuple" = none) :
    DefAt P w K mg base 2 "points_of" 1 m_points_of :=
  defAt (k := 1) (mb := b_points_of) F hm sc_points_of (fun _ _ _ _ _ _ us hl => match us, hl with | [_], _ => rfl) fun A outer s H E hr => by
    exact mss_cons (ms_set (i := 1) sc_points_of.nd rfl (by first | exact Or.inl rfl | exact Or.inr rfl) (me_lst (ma_cons (me_tup (ma_nil)) (ma_nil)))) (mss_cons (ms_for PassesOwn.never rfl (mi_any (me_ix (or_ix (hu_of hr)) pr_ix (mv 0) (me_int) (fun _ _ => rfl))) (mg_name (i := 2) sc_points_of.nd rfl (by first | exact Or.inl rfl | exact Or.inr rfl)) (mss_one (ms_setLc2 (i := 1) (own := [("row", 3), ("value", 4)]) (vs1 := [4]) rfl sc_points_of.nd rfl rfl (sw_true rfl rfl rfl (by kernel_rfl)) (mi_any (mv 1)) (blkOk_by (by kernel_rfl)) (by decide) (fun _ _ _ _ _ => mgo_name (i := 3) (by decide) sc_points_of.nd rfl (by first | exact Or.inl rfl | exact Or.inr rfl)) (fun _ _ _ _ _ => mts_nil) (fun _ _ _ _ _ => mi_any (me_cl D_values_of hr (by decide) rfl (ma_cons (mv 2) (ma_nil)))) (fun _ _ _ _ _ => mgo_name (i := 4) (by decide) sc_points_of.nd rfl (by first | exact Or.inl rfl | exact Or.inr rfl)) (fun _ _ _ _ _ => mts_nil) (fun _ _ _ _ _ => me_op or_add pr_add (mv 3) (me_tup (ma_cons (mv 4) (ma_nil))))))) (mss_one (ms_ret (me_callTy call_tuple_of pr_tup rfl f_tuple PyProof.Rows.boot_tuple (ma_cons (mv 1) (ma_nil))))))
abbrev s__law_heard : Stmt := top 29
theorem sc__law_heard : FnScope ["deed", "refused", "found", "e", "some", "names", "word"] ["deed"] (defScope s__law_heard) := ⟨rfl, rfl, rfl, by decide +kernel, rfl, by decide +kernel, by decide +kernel⟩
noncomputable def h__law_heard : En → Sto → Rs Fl := sSeq (sIf (tB (m2 (opIsN false) (mV 1) (mC .non))) (sRet (mTup (aCons (mC (.str "told")) (aCons (mV 2) (aNil))))) (sNil)) (sSeq (sAsg (mDisp [(mC (.str "no instance"), m1 (fIsX (subL [("NoInstance", true)])) (mV 1)), (mC (.str "no cell"), m1 (fIsX (subL [("NoInstance", false)])) (mV 1))]) (gN 4)) (sSeq (sExpr (mMethD fUpd (mV 4) (aCons (mDisp [(mC (.str "bad order"), m1 (fIsX (subL [("NoInstance", false)])) (mV 1)), (mC (.str "bad plan"), m1 (fIsX (subL [("NoInstance", false)])) (mV 1))]) (aNil)))) (sSeq (sExpr (mMethD fUpd (mV 4) (aCons (mDisp [(mC (.str "bad rule"), m1 (fIsX (subL [("NoInstance", false)])) (mV 1)), (mC (.str "bad nest"), m1 (fIsX (subL [("NoInstance", false)])) (mV 1))]) (aNil)))) (sSeq (sExpr (mMethD fUpd (mV 4) (aCons (mDisp [(mC (.str "bad layout"), m1 (fIsX (subL [("NoInstance", false)])) (mV 1)), (mC (.str "bad size"), m1 (fIsX (subL [("NoInstance", false)])) (mV 1))]) (aNil)))) (sSeq (sExpr (mMethD fUpd (mV 4) (aCons (mDisp [(mC (.str "no tiling"), m1 (fIsX (subL [("NoInstance", false)])) (mV 1)), (mC (.str "no back"), m1 (fIsX (subL [("NoInstance", false)])) (mV 1))]) (aNil)))) (sSeq (sAsg (m1 (fIsX (subL [("NoInstance", false)])) (mV 1)) (gS fSet (mV 4) (mC (.str "no text")))) (sSeq (sIf (tV (m1 (fIsX (subL [("NoInstance", false)])) (mV 1))) (sBad) (sNil)) (sSeq (sIf (tV (m1 (fIsX (subL [("NoInstance", false)])) (mV 1))) (sBad) (sNil)) (sSeq (sAsg (mAd (mComp (iA (mV 4)) [6] (gN 6) (tV (m2 opIx (mV 4) (mV 6))) (mV 6))) (gN 5)) (sRet (mIfE (tAndM (tB (m2 opEq (mN fLen (aCons (mV 5) (aNil))) (mC (.int 1)))) (tV (m1 (fIsX (subL [("NoInstance", true)])) (mV 1)))) (mTup (aCons (m2 opIx (mV 5) (mC (.int 0))) (aNil))) (mTup (aCons (mC (.str "is wrong")) (aNil))))))))))))))
theorem ok__law_heard {P : Program} {w : World} {K : PySem.W.Frag} {mg : Str → Option Value} {base : Heap} (F : ∃ fd, FunD K "_law_heard" "_law_heard" (defArgs s__law_heard) (defBody s__law_heard) (defScope s__law_heard) [] [] (He.ga K "_law_heard") fd) (hm : mg "_law_heard" = some (.ref (He.ga K "_law_heard"))) (g_LoopError : mg "LoopError" = some (.ref (He.ga K "LoopError"))) (x_ok : okB K ["NoInstance"] "LoopError" = true) (f_isinstance : mg "isinstance" = none) (g_NoInstance : mg "NoInstance" = some (.ref (He.ga K "NoInstance"))) (x_NoInstance : isxL K [("NoInstance", true)] (.ref (He.ga K "NoInstance")) = true) (g_NoCell : mg "NoCell" = some (.ref (He.ga K "NoCell"))) (x_NoCell : isxL K [("NoInstance", false)] (.ref (He.ga K "NoCell")) = true) (g_BadOrder : mg "BadOrder" = some (.ref (He.ga K "BadOrder"))) (x_BadOrder : isxL K [("NoInstance", false)] (.ref (He.ga K "BadOrder")) = true) (g_BadPlan : mg "BadPlan" = some (.ref (He.ga K "BadPlan"))) (x_BadPlan : isxL K [("NoInstance", false)] (.ref (He.ga K "BadPlan")) = true) (g_BadRule : mg "BadRule" = some (.ref (He.ga K "BadRule"))) (x_BadRule : isxL K [("NoInstance", false)] (.ref (He.ga K "BadRule")) = true) (g_BadNest : mg "BadNest" = some (.ref (He.ga K "BadNest"))) (x_BadNest : isxL K [("NoInstance", false)] (.ref (He.ga K "BadNest")) = true) (g_BadLayout : mg "BadLayout" = some (.ref (He.ga K "BadLayout"))) (x_BadLayout : isxL K [("NoInstance", false)] (.ref (He.ga K "BadLayout")) = true) (g_BadSize : mg "BadSize" = some (.ref (He.ga K "BadSize"))) (x_BadSize : isxL K [("NoInstance", false)] (.ref (He.ga K "BadSize")) = true) (g_NoTiling : mg "NoTiling" = some (.ref (He.ga K "NoTiling"))) (x_NoTiling : isxL K [("NoInstance", false)] (.ref (He.ga K "NoTiling")) = true) (g_NoBack : mg "NoBack" = some (.ref (He.ga K "NoBack"))) (x_NoBack : isxL K [("NoInstance", false)] (.ref (He.ga K "NoBack")) = true) (g_NoText : mg "NoText" = some (.ref (He.ga K "NoText"))) (x_NoText : isxL K [("NoInstance", false)] (.ref (He.ga K "NoText")) = true) (g_TooMuch : mg "TooMuch" = some (.ref (He.ga K "TooMuch"))) (x_TooMuch : isxL K [("NoInstance", false)] (.ref (He.ga K "TooMuch")) = true) (g_Broken : mg "Broken" = some (.ref (He.ga K "Broken"))) (x_Broken : isxL K [("NoInstance", false)] (.ref (He.ga K "Broken")) = true) (f_len : mg "len" = none) (f_ValueError : mg "ValueError" = none) (x_ValueError : isxL K [("NoInstance", true)] (.type "ValueError") = true) :
    DefH P w K mg base 11 "_law_heard" 7 (okL ["NoInstance"]) h__law_heard := by
  refine heard_ok (rest := h__law_heard) (st := s__law_heard) F hm sc__law_heard (fun _ _ _ _ _ _ us hl => match us, hl with | [_], _ => rfl) rfl rfl rfl rfl (by first | exact Or.inl rfl | exact Or.inr rfl) rfl rfl rfl rfl rfl rfl g_LoopError rfl (okB_ok x_ok) rfl ?_ ?_ (fun _ => rfl) (fun _ => rfl)
  · intro A outer s H hr
    have e : sPar 1 2 (aCons (mC .non) (aCons (mC .non) aNil)) = (sAsg (mTup (aCons (mC .non) (aCons (mC .non) (aNil)))) (gT 2 (gCons (gN 1) (gCons (gN 2) (gNil))))) := by funext E S; rfl
    rw [e]
    exact ms_asg (me_tup (ma_cons (me_non) (ma_cons (me_non) (ma_nil)))) (mg_tup rfl (mgs_cons (mg_name (i := 1) sc__law_heard.nd rfl (by first | exact Or.inl rfl | exact Or.inr rfl)) (mgs_cons (mg_name (i := 2) sc__law_heard.nd rfl (by first | exact Or.inl rfl | exact Or.inr rfl)) (mgs_nil))))
  · intro A outer s H hr
    exact mss_cons (ms_if (mt_cmp op_isN pr_isN (mv 1) (me_non) (by rfl)) (mss_one (ms_ret (me_tup (ma_cons (me_str) (ma_cons (mv 2) (ma_nil)))))) (mss_nil)) (mss_cons (ms_set (i := 4) sc__law_heard.nd rfl (by first | exact Or.inl rfl | exact Or.inr rfl) (me_disp (ms := [(mC (.str "no instance"), m1 (fIsX (subL [("NoInstance", true)])) (mV 1)), (mC (.str "no cell"), m1 (fIsX (subL [("NoInstance", false)])) (mV 1))]) (pps_cons (me_str) (me_isX rfl f_isinstance (mv 1) rfl g_NoInstance (isxL_ok x_NoInstance)) (pps_cons (me_str) (me_isX rfl f_isinstance (mv 1) rfl g_NoCell (isxL_ok x_NoCell)) (pps_nil))) rfl rfl (by simp) (by decide))) (mss_cons (ms_expr (me_upd (mv 4) (ma_cons (me_disp (ms := [(mC (.str "bad order"), m1 (fIsX (subL [("NoInstance", false)])) (mV 1)), (mC (.str "bad plan"), m1 (fIsX (subL [("NoInstance", false)])) (mV 1))]) (pps_cons (me_str) (me_isX rfl f_isinstance (mv 1) rfl g_BadOrder (isxL_ok x_BadOrder)) (pps_cons (me_str) (me_isX rfl f_isinstance (mv 1) rfl g_BadPlan (isxL_ok x_BadPlan)) (pps_nil))) rfl rfl (by simp) (by decide)) (ma_nil)))) (mss_cons (ms_expr (me_upd (mv 4) (ma_cons (me_disp (ms := [(mC (.str "bad rule"), m1 (fIsX (subL [("NoInstance", false)])) (mV 1)), (mC (.str "bad nest"), m1 (fIsX (subL [("NoInstance", false)])) (mV 1))]) (pps_cons (me_str) (me_isX rfl f_isinstance (mv 1) rfl g_BadRule (isxL_ok x_BadRule)) (pps_cons (me_str) (me_isX rfl f_isinstance (mv 1) rfl g_BadNest (isxL_ok x_BadNest)) (pps_nil))) rfl rfl (by simp) (by decide)) (ma_nil)))) (mss_cons (ms_expr (me_upd (mv 4) (ma_cons (me_disp (ms := [(mC (.str "bad layout"), m1 (fIsX (subL [("NoInstance", false)])) (mV 1)), (mC (.str "bad size"), m1 (fIsX (subL [("NoInstance", false)])) (mV 1))]) (pps_cons (me_str) (me_isX rfl f_isinstance (mv 1) rfl g_BadLayout (isxL_ok x_BadLayout)) (pps_cons (me_str) (me_isX rfl f_isinstance (mv 1) rfl g_BadSize (isxL_ok x_BadSize)) (pps_nil))) rfl rfl (by simp) (by decide)) (ma_nil)))) (mss_cons (ms_expr (me_upd (mv 4) (ma_cons (me_disp (ms := [(mC (.str "no tiling"), m1 (fIsX (subL [("NoInstance", false)])) (mV 1)), (mC (.str "no back"), m1 (fIsX (subL [("NoInstance", false)])) (mV 1))]) (pps_cons (me_str) (me_isX rfl f_isinstance (mv 1) rfl g_NoTiling (isxL_ok x_NoTiling)) (pps_cons (me_str) (me_isX rfl f_isinstance (mv 1) rfl g_NoBack (isxL_ok x_NoBack)) (pps_nil))) rfl rfl (by simp) (by decide)) (ma_nil)))) (mss_cons (ms_asg (me_isX rfl f_isinstance (mv 1) rfl g_NoText (isxL_ok x_NoText)) (mg_sub pr_set (mv 4) (me_str) (set_any (hu_of hr)))) (mss_cons (ms_if (mt_truth (me_isX rfl f_isinstance (mv 1) rfl g_TooMuch (isxL_ok x_TooMuch))) (mss_one (ms_bad)) (mss_nil)) (mss_cons (ms_if (mt_truth (me_isX rfl f_isinstance (mv 1) rfl g_Broken (isxL_ok x_Broken))) (mss_one (ms_bad)) (mss_nil)) (mss_cons (ms_setLc (i := 5) (own := [("word", 6)]) rfl sc__law_heard.nd rfl rfl (sw_true rfl rfl rfl (by kernel_rfl)) (mi_any (mv 4)) (blkOk_by (by kernel_rfl)) (fun _ _ _ _ _ => mgo_name (i := 6) (by decide) sc__law_heard.nd rfl (by first | exact Or.inl rfl | exact Or.inr rfl)) (fun _ _ _ _ _ => mts_one (mt_truth (me_ix (or_ix (hu_of hr)) pr_ix (mv 4) (mv 6) (fun _ _ => rfl)))) (fun _ _ _ _ _ => mv 6)) (mss_one (ms_ret (me_if (PW.pt (mw_and (mt_cmp (or_eq hr.units) pr_eq (me_callB cr_len pr_len rfl f_len PySem.boot_len (ma_cons (mv 5) (ma_nil))) (me_int) (by rfl)) (mw_and1 (mt_truth (me_isXB rfl f_isinstance (mv 1) rfl f_ValueError (by decide +kernel) (isxL_ok x_ValueError)))))) (me_tup (ma_cons (me_ix (or_ix (hu_of hr)) pr_ix (mv 5) (me_int) (fun _ _ => rfl)) (ma_nil))) (me_tup (ma_cons (me_str) (ma_nil)))))))))))))))
abbrev s__law_draw : Stmt := top 30
theorem sc__law_draw : FnScope ["script", "town", "many", "at", "rest", "number"] ["script", "town", "many"] (defScope s__law_draw) := ⟨rfl, rfl, rfl, by decide +kernel, rfl, by decide +kernel, by decide +kernel⟩
noncomputable def b__law_draw : En → Sto → Rs Fl := sSeq (sAsg (m2 opAdd (m2 opIx (mV 1) (mC (.str "count"))) (mC (.int 1))) (gS fSet (mV 1) (mC (.str "count")))) (sSeq (sAsg (mIfE (tV (mV 0)) (m2 opMod (m2 opIx (mV 1) (mC (.str "count"))) (mN fLen (aCons (mV 0) (aNil)))) (mC (.int 0))) (gN 3)) (sSeq (sAsg (mGet2 (m2 opIx (mV 1) (mC (.str "rests"))) (mV 3) (mIfE (tV (mV 0)) (m2 opIx (mV 0) (mV 3)) (mC (.int 0)))) (gN 4)) (sSeq (sIf (tB (m2 opGe (mV 4) (m2 opPow (mC (.int 10)) (mC (.int 18))))) (sSeq (sAsg (m2 opFdiv (mV 4) (mV 2)) (gS fSet (m2 opIx (mV 1) (mC (.str "rests"))) (mV 3))) (sRet (m2 opMod (mV 4) (mV 2)))) (sNil)) (sSeq (sAsg (m2 opMod (m2 opAdd (mV 4) (m2 opMul (mC (.int 104729)) (m2 opIx (mV 1) (mC (.str "count"))))) (mC (.int 4294967291))) (gN 5)) (sSeq (sAsg (m2 opMod (m2 opPow (mV 5) (mC (.int 5))) (mC (.int 4294967279))) (gN 5)) (sRet (m2 opMod (m2 opFdiv (m2 opMod (m2 opAdd (m2 opMul (m2 opFdiv (mV 5) (mC (.int 64))) (mC (.int 69621))) (mV 5)) (mC (.int 4294967231))) (mC (.int 8))) (mV 2))))))))
noncomputable def m__law_draw : List D → Sto → Rs D := mDef 6 (b__law_draw)
theorem ok__law_draw {P : Program} {w : World} {K : PySem.W.Frag} {mg : Str → Option Value} {base : Heap} (F : ∃ fd, FunD K "_law_draw" "_law_draw" (defArgs s__law_draw) (defBody s__law_draw) (defScope s__law_draw) [] [] (He.ga K "_law_draw") fd) (hm : mg "_law_draw" = some (.ref (He.ga K "_law_draw"))) (f_len : mg "len" = none) :
    DefAt P w K mg base 1 "_law_draw" 3 m__law_draw :=
  defAt (k := 0) (mb := b__law_draw) F hm sc__law_draw (fun _ _ _ _ _ _ us hl => match us, hl with | [_, _, _], _ => rfl) fun A outer s H E hr => by
    exact mss_cons (ms_asg (me_op or_add pr_add (me_ix (or_ix (hu_of hr)) pr_ix (mv 1) (me_str) (fun _ _ => rfl)) (me_int)) (mg_sub pr_set (mv 1) (me_str) (set_any (hu_of hr)))) (mss_cons (ms_set (i := 3) sc__law_draw.nd rfl (by first | exact Or.inl rfl | exact Or.inr rfl) (me_if (mt_truth (mv 0)) (me_op op_mod pr_mod (me_ix (or_ix (hu_of hr)) pr_ix (mv 1) (me_str) (fun _ _ => rfl)) (me_callB cr_len pr_len rfl f_len PySem.boot_len (ma_cons (mv 0) (ma_nil)))) (me_int))) (mss_cons (ms_set (i := 4) sc__law_draw.nd rfl (by first | exact Or.inl rfl | exact Or.inr rfl) (me_get2 (hu_of hr) (me_ix (or_ix (hu_of hr)) pr_ix (mv 1) (me_str) (fun _ _ => rfl)) (mv 3) (me_if (mt_truth (mv 0)) (me_ix (or_ix (hu_of hr)) pr_ix (mv 0) (mv 3) (fun _ _ => rfl)) (me_int)) ⟨rfl, rfl, rfl, rfl⟩)) (mss_cons (ms_if (mt_cmp op_ge pr_ge (mv 4) (me_op op_pow pr_pow (me_int) (me_int)) (by rfl)) (mss_cons (ms_asg (me_op op_fdiv pr_fdiv (mv 4) (mv 2)) (mg_sub pr_set (me_ix (or_ix (hu_of hr)) pr_ix (mv 1) (me_str) (fun _ _ => rfl)) (mv 3) (set_any (hu_of hr)))) (mss_one (ms_ret (me_op op_mod pr_mod (mv 4) (mv 2))))) (mss_nil)) (mss_cons (ms_set (i := 5) sc__law_draw.nd rfl (by first | exact Or.inl rfl | exact Or.inr rfl) (me_op op_mod pr_mod (me_op or_add pr_add (mv 4) (me_op op_mul pr_mul (me_int) (me_ix (or_ix (hu_of hr)) pr_ix (mv 1) (me_str) (fun _ _ => rfl)))) (me_int))) (mss_cons (ms_set (i := 5) sc__law_draw.nd rfl (by first | exact Or.inl rfl | exact Or.inr rfl) (me_op op_mod pr_mod (me_op op_pow pr_pow (mv 5) (me_int)) (me_int))) (mss_one (ms_ret (me_op op_mod pr_mod (me_op op_fdiv pr_fdiv (me_op op_mod pr_mod (me_op or_add pr_add (me_op op_mul pr_mul (me_op op_fdiv pr_fdiv (mv 5) (me_int)) (me_int)) (mv 5)) (me_int)) (me_int)) (mv 2)))))))))
abbrev s__law_begun : Stmt := top 31
theorem sc__law_begun : FnScope [] [] (defScope s__law_begun) := ⟨rfl, rfl, rfl, by decide +kernel, rfl, by decide +kernel, by decide +kernel⟩
noncomputable def b__law_begun : En → Sto → Rs Fl := sRet (mDisp [(mC (.str "count"), mC (.int 0)), (mC (.str "rests"), mDnew)])
noncomputable def m__law_begun : List D → Sto → Rs D := mDef 0 (b__law_begun)
theorem ok__law_begun {P : Program} {w : World} {K : PySem.W.Frag} {mg : Str → Option Value} {base : Heap} (F : ∃ fd, FunD K "_law_begun" "_law_begun" (defArgs s__law_begun) (defBody s__law_begun) (defScope s__law_begun) [] [] (He.ga K "_law_begun") fd) (hm : mg "_law_begun" = some (.ref (He.ga K "_law_begun")))  :
    DefAt P w K mg base 1 "_law_begun" 0 m__law_begun :=
  defAt (k := 0) (mb := b__law_begun) F hm sc__law_begun (fun _ _ _ _ _ _ us hl => match us, hl with | [], _ => rfl) fun A outer s H E hr => by
    exact mss_one (ms_ret (me_disp (ms := [(mC (.str "count"), mC (.int 0)), (mC (.str "rests"), mDnew)]) (pps_cons (me_str) (me_int) (pps_cons (me_str) (me_dnew) (pps_nil))) rfl rfl (by simp) (by decide)))
abbrev s__law_loop_values : Stmt := top 32
theorem sc__law_loop_values : FnScope ["loop", "found", "here"] ["loop"] (defScope s__law_loop_values) := ⟨rfl, rfl, rfl, by decide +kernel, rfl, by decide +kernel, by decide +kernel⟩
noncomputable def w__law_loop_values_2 : En → Sto → Rs Fl := sSeq (sExpr (mMeth fAppend (mV 1) (aCons (mV 2) (aNil)))) (sAsg (m2 opAdd (mV 2) (m2 opIx (mV 0) (mC (.int 3)))) (gN 2))
noncomputable def b__law_loop_values : En → Sto → Rs Fl := sSeq (sPar 1 2 (aCons (mLst (aNil)) (aCons (m2 opIx (mV 0) (mC (.int 1))) (aNil)))) (sSeq (whileF (tB (m2 opLt (mV 2) (m2 opIx (mV 0) (mC (.int 2))))) (w__law_loop_values_2) 100) (sRet (mV 1)))
noncomputable def m__law_loop_values : List D → Sto → Rs D := mDef 3 (b__law_loop_values)
theorem ok__law_loop_values {P : Program} {w : World} {K : PySem.W.Frag} {mg : Str → Option Value} {base : Heap} (F : ∃ fd, FunD K "_law_loop_values" "_law_loop_values" (defArgs s__law_loop_values) (defBody s__law_loop_values) (defScope s__law_loop_values) [] [] (He.ga K "_law_loop_values") fd) (hm : mg "_law_loop_values" = some (.ref (He.ga K "_law_loop_values")))  :
    DefAt P w K mg base 1 "_law_loop_values" 1 m__law_loop_values :=
  defAt (k := 0) (mb := b__law_loop_values) F hm sc__law_loop_values (fun _ _ _ _ _ _ us hl => match us, hl with | [_], _ => rfl) fun A outer s H E hr => by
    exact mss_cons (ms_par (i := 1) (j := 2) rfl sc__law_loop_values.nd rfl rfl (by decide) rfl rfl (ma_cons (me_lst (ma_nil)) (ma_cons (me_ix (or_ix (hu_of hr)) pr_ix (mv 0) (me_int) (fun _ _ => rfl)) (ma_nil))) (by rfl)) (mss_cons (ms_while 100 PassesOwn.never (mt_cmp op_lt pr_lt (mv 2) (me_ix (or_ix (hu_of hr)) pr_ix (mv 0) (me_int) (fun _ _ => rfl)) (by rfl)) (mss_cons (ms_expr (me_meth PySem.F.slot_list_append PySem.F.type_list_append mt_append pr_append (mv 1) (ma_cons (mv 2) (ma_nil)))) (mss_one (ms_set (i := 2) sc__law_loop_values.nd rfl (by first | exact Or.inl rfl | exact Or.inr rfl) (me_op or_add pr_add (mv 2) (me_ix (or_ix (hu_of hr)) pr_ix (mv 0) (me_int) (fun _ _ => rfl))))))) (mss_one (ms_ret (mv 1))))
abbrev s__law_a_sum : Stmt := top 33
theorem sc__law_a_sum : FnScope ["script", "town", "loops", "highs", "k", "loop", "number", "factors", "low", "high", "values", "ends"] ["script", "town", "loops", "highs"] (defScope s__law_a_sum) := ⟨rfl, rfl, rfl, by decide +kernel, rfl, by decide +kernel, by decide +kernel⟩
noncomputable def w__law_a_sum_2 : En → Sto → Rs Fl := sSeq (sAsg (m2 opIx (mV 2) (mN (mCl 3 m__law_draw) (aCons (mV 0) (aCons (mV 1) (aCons (mN fLen (aCons (mV 2) (aNil))) (aNil)))))) (gN 5)) (sAsg (m2 opIx (mLst (aCons (mC (.int 1)) (aCons (mC (.int 1)) (aCons (mC (.int 1)) (aCons (m1 opNeg (mC (.int 1))) (aNil)))))) (mN (mCl 3 m__law_draw) (aCons (mV 0) (aCons (mV 1) (aCons (mC (.int 4)) (aNil)))))) (gS fSet (mV 7) (m2 opIx (mV 5) (mC (.int 0)))))
noncomputable def w__law_a_sum_5 : En → Sto → Rs Fl := sIf (tB (m2 opIn (m2 opIx (mV 5) (mC (.int 0))) (mV 7))) (sSeq (sAsg (mN (mCl 1 m__law_loop_values) (aCons (mV 5) (aNil))) (gN 10)) (sSeq (sAsg (mLst (aCons (m2 opMul (m2 opIx (mV 7) (m2 opIx (mV 5) (mC (.int 0)))) (m2 opIx (mV 10) (mC (.int 0)))) (aCons (m2 opMul (m2 opIx (mV 7) (m2 opIx (mV 5) (mC (.int 0)))) (m2 opIx (mV 10) (m1 opNeg (mC (.int 1))))) (aNil)))) (gN 11)) (sPar 8 9 (aCons (m2 opAdd (mV 8) (mN fMinL (aCons (mV 11) (aNil)))) (aCons (m2 opAdd (mV 9) (mN fMaxL (aCons (mV 11) (aNil)))) (aNil)))))) (sNil)
noncomputable def b__law_a_sum : En → Sto → Rs Fl := sSeq (sPar3 7 8 9 (aCons (mDnew) (aCons (mC (.int 0)) (aCons (mC (.int 0)) (aNil))))) (sSeq (sFor (fun E S => ((aCons (m2 opAdd (mC (.int 1)) (mN (mCl 3 m__law_draw) (aCons (mV 0) (aCons (mV 1) (aCons (mC (.int 2)) (aNil)))))) (aNil)) E S).bind aiR1) (gN 4) (w__law_a_sum_2)) (sSeq (sFor (iA (mV 2)) (gN 5) (w__law_a_sum_5)) (sSeq (sAsg (m2 opSub (mN (mCl 3 m__law_draw) (aCons (mV 0) (aCons (mV 1) (aCons (mC (.int 2)) (aNil))))) (mV 8)) (gN 6)) (sSeq (sExpr (mMeth fAppend (mV 3) (aCons (m2 opAdd (mV 9) (mV 6)) (aNil)))) (sRet (mTup (aCons (mV 6) (aCons (mN fTup (aCons (m1 fSortItems (mV 7)) (aNil))) (aNil)))))))))
noncomputable def m__law_a_sum : List D → Sto → Rs D := mDef 12 (b__law_a_sum)
theorem ok__law_a_sum {P : Program} {w : World} {K : PySem.W.Frag} {mg : Str → Option Value} {base : Heap} (F : ∃ fd, FunD K "_law_a_sum" "_law_a_sum" (defArgs s__law_a_sum) (defBody s__law_a_sum) (defScope s__law_a_sum) [] [] (He.ga K "_law_a_sum") fd) (hm : mg "_law_a_sum" = some (.ref (He.ga K "_law_a_sum"))) (f_range : mg "range" = none) (D__law_draw : DefAt P w K mg base 1 "_law_draw" 3 m__law_draw) (f_len : mg "len" = none) (D__law_loop_values : DefAt P w K mg base 1 "_law_loop_values" 1 m__law_loop_values) (f_max : mg "max" = none) (f_min : mg "min" = none) (f_tuple : mg "tuple" = none) (f_sorted : mg "sorted" = none) :
    DefAt P w K mg base 2 "_law_a_sum" 4 m__law_a_sum :=
  defAt (k := 1) (mb := b__law_a_sum) F hm sc__law_a_sum (fun _ _ _ _ _ _ us hl => match us, hl with | [_, _, _, _], _ => rfl) fun A outer s H E hr => by
    exact mss_cons (ms_par3 (i := 7) (j := 8) (l := 9) rfl sc__law_a_sum.nd rfl rfl rfl (by decide) (by decide) (by decide) rfl rfl rfl (ma_cons (me_dnew) (ma_cons (me_int) (ma_cons (me_int) (ma_nil)))) (by rfl)) (mss_cons (ms_for PassesOwn.never rfl (mi_range1 rfl f_range (ma_cons (me_op or_add pr_add (me_int) (me_cl D__law_draw hr (by decide) rfl (ma_cons (mv 0) (ma_cons (mv 1) (ma_cons (me_int) (ma_nil)))))) (ma_nil))) (mg_name (i := 4) sc__law_a_sum.nd rfl (by first | exact Or.inl rfl | exact Or.inr rfl)) (mss_cons (ms_set (i := 5) sc__law_a_sum.nd rfl (by first | exact Or.inl rfl | exact Or.inr rfl) (me_ix (or_ix (hu_of hr)) pr_ix (mv 2) (me_cl D__law_draw hr (by decide) rfl (ma_cons (mv 0) (ma_cons (mv 1) (ma_cons (me_callB cr_len pr_len rfl f_len PySem.boot_len (ma_cons (mv 2) (ma_nil))) (ma_nil))))) (fun _ _ => rfl))) (mss_one (ms_asg (me_ix (or_ix (hu_of hr)) pr_ix (me_lst (ma_cons (me_int) (ma_cons (me_int) (ma_cons (me_int) (ma_cons (me_un un_neg pr_neg (me_int)) (ma_nil)))))) (me_cl D__law_draw hr (by decide) rfl (ma_cons (mv 0) (ma_cons (mv 1) (ma_cons (me_int) (ma_nil))))) (fun _ _ => rfl)) (mg_sub pr_set (mv 7) (me_ix (or_ix (hu_of hr)) pr_ix (mv 5) (me_int) (fun _ _ => rfl)) (set_any (hu_of hr))))))) (mss_cons (ms_for PassesOwn.never rfl (mi_any (mv 2)) (mg_name (i := 5) sc__law_a_sum.nd rfl (by first | exact Or.inl rfl | exact Or.inr rfl)) (mss_one (ms_if (mt_cmp (or_in (hu_of hr)) pr_in (me_ix (or_ix (hu_of hr)) pr_ix (mv 5) (me_int) (fun _ _ => rfl)) (mv 7) (by rfl)) (mss_cons (ms_set (i := 10) sc__law_a_sum.nd rfl (by first | exact Or.inl rfl | exact Or.inr rfl) (me_cl D__law_loop_values hr (by decide) rfl (ma_cons (mv 5) (ma_nil)))) (mss_cons (ms_set (i := 11) sc__law_a_sum.nd rfl (by first | exact Or.inl rfl | exact Or.inr rfl) (me_lst (ma_cons (me_op op_mul pr_mul (me_ix (or_ix (hu_of hr)) pr_ix (mv 7) (me_ix (or_ix (hu_of hr)) pr_ix (mv 5) (me_int) (fun _ _ => rfl)) (fun _ _ => rfl)) (me_ix (or_ix (hu_of hr)) pr_ix (mv 10) (me_int) (fun _ _ => rfl))) (ma_cons (me_op op_mul pr_mul (me_ix (or_ix (hu_of hr)) pr_ix (mv 7) (me_ix (or_ix (hu_of hr)) pr_ix (mv 5) (me_int) (fun _ _ => rfl)) (fun _ _ => rfl)) (me_ix (or_ix (hu_of hr)) pr_ix (mv 10) (me_un un_neg pr_neg (me_int)) (fun _ _ => rfl))) (ma_nil))))) (mss_one (ms_par (i := 8) (j := 9) rfl sc__law_a_sum.nd rfl rfl (by decide) rfl rfl (ma_cons (me_op or_add pr_add (mv 8) (me_callB (cr_min rfl) pr_minL rfl f_min PyProof.Rows.boot_min (ma_cons (mv 11) (ma_nil)))) (ma_cons (me_op or_add pr_add (mv 9) (me_callB (cr_max rfl) pr_maxL rfl f_max PyProof.Rows.boot_max (ma_cons (mv 11) (ma_nil)))) (ma_nil))) (by rfl))))) (mss_nil)))) (mss_cons (ms_set (i := 6) sc__law_a_sum.nd rfl (by first | exact Or.inl rfl | exact Or.inr rfl) (me_op op_sub pr_sub (me_cl D__law_draw hr (by decide) rfl (ma_cons (mv 0) (ma_cons (mv 1) (ma_cons (me_int) (ma_nil))))) (mv 8))) (mss_cons (ms_expr (me_meth PySem.F.slot_list_append PySem.F.type_list_append mt_append pr_append (mv 3) (ma_cons (me_op or_add pr_add (mv 9) (mv 6)) (ma_nil)))) (mss_one (ms_ret (me_tup (ma_cons (mv 6) (ma_cons (me_callTy call_tuple_of pr_tup rfl f_tuple PyProof.Rows.boot_tuple (ma_cons (me_sortItems rfl hr.units (mv 7) rfl f_sorted) (ma_nil))) (ma_nil))))))))))
abbrev s__law_an_at : Stmt := top 34
theorem sc__law_an_at : FnScope ["script", "town", "loops", "sizes", "name", "k", "places", "highs"] ["script", "town", "loops", "sizes"] (defScope s__law_an_at) := ⟨rfl, rfl, rfl, by decide +kernel, rfl, by decide +kernel, by decide +kernel⟩
noncomputable def w__law_an_at_3 : En → Sto → Rs Fl := sSeq (sExpr (mMeth fAppend (mV 6) (aCons (mN (mCl 4 m__law_a_sum) (aCons (mV 0) (aCons (mV 1) (aCons (mV 2) (aCons (mV 7) (aNil)))))) (aNil)))) (sAsg (mN fMax2 (aCons (m2 opIx (m2 opIx (mV 3) (mV 4)) (mV 5)) (aCons (m2 opAdd (m2 opIx (mV 7) (mV 5)) (mC (.int 1))) (aNil)))) (gS fSet (m2 opIx (mV 3) (mV 4)) (mV 5)))
noncomputable def b__law_an_at : En → Sto → Rs Fl := sSeq (sAsg (m2 opIx (mLst (aCons (mC (.str "a")) (aCons (mC (.str "b")) (aNil)))) (mN (mCl 3 m__law_draw) (aCons (mV 0) (aCons (mV 1) (aCons (mC (.int 2)) (aNil)))))) (gN 4)) (sSeq (sPar 6 7 (aCons (mLst (aNil)) (aCons (mLst (aNil)) (aNil)))) (sSeq (sFor (fun E S => ((aCons (mN fLen (aCons (m2 opIx (mV 3) (mV 4)) (aNil))) (aNil)) E S).bind aiR1) (gN 5) (w__law_an_at_3)) (sRet (mTup (aCons (mV 4) (aCons (mN fTup (aCons (mV 6) (aNil))) (aNil)))))))
noncomputable def m__law_an_at : List D → Sto → Rs D := mDef 8 (b__law_an_at)
theorem ok__law_an_at {P : Program} {w : World} {K : PySem.W.Frag} {mg : Str → Option Value} {base : Heap} (F : ∃ fd, FunD K "_law_an_at" "_law_an_at" (defArgs s__law_an_at) (defBody s__law_an_at) (defScope s__law_an_at) [] [] (He.ga K "_law_an_at") fd) (hm : mg "_law_an_at" = some (.ref (He.ga K "_law_an_at"))) (D__law_draw : DefAt P w K mg base 1 "_law_draw" 3 m__law_draw) (f_range : mg "range" = none) (f_len : mg "len" = none) (D__law_a_sum : DefAt P w K mg base 2 "_law_a_sum" 4 m__law_a_sum) (f_max : mg "max" = none) (f_tuple : mg "tuple" = none) :
    DefAt P w K mg base 3 "_law_an_at" 4 m__law_an_at :=
  defAt (k := 2) (mb := b__law_an_at) F hm sc__law_an_at (fun _ _ _ _ _ _ us hl => match us, hl with | [_, _, _, _], _ => rfl) fun A outer s H E hr => by
    exact mss_cons (ms_set (i := 4) sc__law_an_at.nd rfl (by first | exact Or.inl rfl | exact Or.inr rfl) (me_ix (or_ix (hu_of hr)) pr_ix (me_lst (ma_cons (me_str) (ma_cons (me_str) (ma_nil)))) (me_cl D__law_draw hr (by decide) rfl (ma_cons (mv 0) (ma_cons (mv 1) (ma_cons (me_int) (ma_nil))))) (fun _ _ => rfl))) (mss_cons (ms_par (i := 6) (j := 7) rfl sc__law_an_at.nd rfl rfl (by decide) rfl rfl (ma_cons (me_lst (ma_nil)) (ma_cons (me_lst (ma_nil)) (ma_nil))) (by rfl)) (mss_cons (ms_for PassesOwn.never rfl (mi_range1 rfl f_range (ma_cons (me_callB cr_len pr_len rfl f_len PySem.boot_len (ma_cons (me_ix (or_ix (hu_of hr)) pr_ix (mv 3) (mv 4) (fun _ _ => rfl)) (ma_nil))) (ma_nil))) (mg_name (i := 5) sc__law_an_at.nd rfl (by first | exact Or.inl rfl | exact Or.inr rfl)) (mss_cons (ms_expr (me_meth PySem.F.slot_list_append PySem.F.type_list_append mt_append pr_append (mv 6) (ma_cons (me_cl D__law_a_sum hr (by decide) rfl (ma_cons (mv 0) (ma_cons (mv 1) (ma_cons (mv 2) (ma_cons (mv 7) (ma_nil)))))) (ma_nil)))) (mss_one (ms_asg (me_callB (call_max2 rfl) pr_max2 rfl f_max PyProof.Rows.boot_max (ma_cons (me_ix (or_ix (hu_of hr)) pr_ix (me_ix (or_ix (hu_of hr)) pr_ix (mv 3) (mv 4) (fun _ _ => rfl)) (mv 5) (fun _ _ => rfl)) (ma_cons (me_op or_add pr_add (me_ix (or_ix (hu_of hr)) pr_ix (mv 7) (mv 5) (fun _ _ => rfl)) (me_int)) (ma_nil)))) (mg_sub pr_set (me_ix (or_ix (hu_of hr)) pr_ix (mv 3) (mv 4) (fun _ _ => rfl)) (mv 5) (set_any (hu_of hr))))))) (mss_one (ms_ret (me_tup (ma_cons (mv 4) (ma_cons (me_callTy call_tuple_of pr_tup rfl f_tuple PyProof.Rows.boot_tuple (ma_cons (mv 6) (ma_nil))) (ma_nil))))))))
abbrev s__law_a_value : Stmt := top 35
theorem sc__law_a_value : FnScope ["script", "town", "loops", "sizes", "deep", "turn", "word", "one"] ["script", "town", "loops", "sizes", "deep"] (defScope s__law_a_value) := ⟨rfl, rfl, rfl, by decide +kernel, rfl, by decide +kernel, by decide +kernel⟩
noncomputable def b__law_a_value (rec : List D → Sto → Rs D) : En → Sto → Rs Fl := sSeq (sAsg (mIfE (tB (m2 opGt (mV 4) (mC (.int 0)))) (mN (mCl 3 m__law_draw) (aCons (mV 0) (aCons (mV 1) (aCons (mC (.int 6)) (aNil))))) (mN (mCl 3 m__law_draw) (aCons (mV 0) (aCons (mV 1) (aCons (mC (.int 4)) (aNil)))))) (gN 5)) (sSeq (sIf (tB (m2 opEq (mV 5) (mC (.int 0)))) (sRet (mTup (aCons (mC (.str "num")) (aCons (m2 opSub (mN (mCl 3 m__law_draw) (aCons (mV 0) (aCons (mV 1) (aCons (mC (.int 9)) (aNil))))) (mC (.int 4))) (aNil))))) (sNil)) (sSeq (sIf (tB (m2 opEq (mV 5) (mC (.int 1)))) (sRet (mTup (aCons (mC (.str "loop")) (aCons (m2 opIx (m2 opIx (mV 2) (mN (mCl 3 m__law_draw) (aCons (mV 0) (aCons (mV 1) (aCons (mN fLen (aCons (mV 2) (aNil))) (aNil)))))) (mC (.int 0))) (aNil))))) (sNil)) (sSeq (sIf (tB (m2 opLt (mV 5) (mC (.int 4)))) (sRet (m2 opAdd (mTup (aCons (mC (.str "at")) (aNil))) (mN (mCl 4 m__law_an_at) (aCons (mV 0) (aCons (mV 1) (aCons (mV 2) (aCons (mV 3) (aNil)))))))) (sNil)) (sSeq (sAsg (m2 opIx (mLst (aCons (mC (.str "sum")) (aCons (mC (.str "less")) (aCons (mC (.str "times")) (aCons (mC (.str "most")) (aNil)))))) (mN (mCl 3 m__law_draw) (aCons (mV 0) (aCons (mV 1) (aCons (mC (.int 4)) (aNil)))))) (gN 6)) (sSeq (sAsg (mN (mCl 5 rec) (aCons (mV 0) (aCons (mV 1) (aCons (mV 2) (aCons (mV 3) (aCons (m2 opSub (mV 4) (mC (.int 1))) (aNil))))))) (gN 7)) (sSeq (sIf (tB (m2 opEq (mV 6) (mC (.str "times")))) (sRet (mTup (aCons (mV 6) (aCons (mV 7) (aCons (mTup (aCons (mC (.str "num")) (aCons (m2 opSub (mN (mCl 3 m__law_draw) (aCons (mV 0) (aCons (mV 1) (aCons (mC (.int 9)) (aNil))))) (mC (.int 4))) (aNil)))) (aNil)))))) (sNil)) (sRet (mTup (aCons (mV 6) (aCons (mV 7) (aCons (mN (mCl 5 rec) (aCons (mV 0) (aCons (mV 1) (aCons (mV 2) (aCons (mV 3) (aCons (m2 opSub (mV 4) (mC (.int 1))) (aNil))))))) (aNil))))))))))))
noncomputable def m__law_a_value : Nat → List D → Sto → Rs D
  | 0 => mDef 8 (fun _ _ => .bad)
  | n + 1 => mDef 8 (b__law_a_value (m__law_a_value n))
theorem ok__law_a_value {P : Program} {w : World} {K : PySem.W.Frag} {mg : Str → Option Value} {base : Heap} (F : ∃ fd, FunD K "_law_a_value" "_law_a_value" (defArgs s__law_a_value) (defBody s__law_a_value) (defScope s__law_a_value) [] [] (He.ga K "_law_a_value") fd) (hm : mg "_law_a_value" = some (.ref (He.ga K "_law_a_value"))) (D__law_draw : DefAt P w K mg base 1 "_law_draw" 3 m__law_draw) (f_len : mg "len" = none) (D__law_an_at : DefAt P w K mg base 3 "_law_an_at" 4 m__law_an_at) : ∀ n : Nat, DefAt P w K mg base (4 + n) "_law_a_value" 5 (m__law_a_value n)
  | 0 => defAt (k := 3) (mb := fun _ _ => .bad) F hm sc__law_a_value (fun _ _ _ _ _ _ us hl => match us, hl with | [_, _, _, _, _], _ => rfl) fun A outer s H E hr => mss_bad
  | n + 1 => by
    have D_rec := ok__law_a_value (P := P) (w := w) (base := base) F hm D__law_draw f_len D__law_an_at n
    exact defAt (k := 4 + n) (mb := b__law_a_value (m__law_a_value n)) F hm sc__law_a_value (fun _ _ _ _ _ _ us hl => match us, hl with | [_, _, _, _, _], _ => rfl) fun A outer s H E hr => by
      exact mss_cons (ms_set (i := 5) sc__law_a_value.nd rfl (by first | exact Or.inl rfl | exact Or.inr rfl) (me_if (mt_cmp op_gt pr_gt (mv 4) (me_int) (by rfl)) (me_cl D__law_draw hr (by omega) rfl (ma_cons (mv 0) (ma_cons (mv 1) (ma_cons (me_int) (ma_nil))))) (me_cl D__law_draw hr (by omega) rfl (ma_cons (mv 0) (ma_cons (mv 1) (ma_cons (me_int) (ma_nil))))))) (mss_cons (ms_if (mt_cmp (or_eq hr.units) pr_eq (mv 5) (me_int) (by rfl)) (mss_one (ms_ret (me_tup (ma_cons (me_str) (ma_cons (me_op op_sub pr_sub (me_cl D__law_draw hr (by omega) rfl (ma_cons (mv 0) (ma_cons (mv 1) (ma_cons (me_int) (ma_nil))))) (me_int)) (ma_nil)))))) (mss_nil)) (mss_cons (ms_if (mt_cmp (or_eq hr.units) pr_eq (mv 5) (me_int) (by rfl)) (mss_one (ms_ret (me_tup (ma_cons (me_str) (ma_cons (me_ix (or_ix (hu_of hr)) pr_ix (me_ix (or_ix (hu_of hr)) pr_ix (mv 2) (me_cl D__law_draw hr (by omega) rfl (ma_cons (mv 0) (ma_cons (mv 1) (ma_cons (me_callB cr_len pr_len rfl f_len PySem.boot_len (ma_cons (mv 2) (ma_nil))) (ma_nil))))) (fun _ _ => rfl)) (me_int) (fun _ _ => rfl)) (ma_nil)))))) (mss_nil)) (mss_cons (ms_if (mt_cmp op_lt pr_lt (mv 5) (me_int) (by rfl)) (mss_one (ms_ret (me_op or_add pr_add (me_tup (ma_cons (me_str) (ma_nil))) (me_cl D__law_an_at hr (by omega) rfl (ma_cons (mv 0) (ma_cons (mv 1) (ma_cons (mv 2) (ma_cons (mv 3) (ma_nil))))))))) (mss_nil)) (mss_cons (ms_set (i := 6) sc__law_a_value.nd rfl (by first | exact Or.inl rfl | exact Or.inr rfl) (me_ix (or_ix (hu_of hr)) pr_ix (me_lst (ma_cons (me_str) (ma_cons (me_str) (ma_cons (me_str) (ma_cons (me_str) (ma_nil)))))) (me_cl D__law_draw hr (by omega) rfl (ma_cons (mv 0) (ma_cons (mv 1) (ma_cons (me_int) (ma_nil))))) (fun _ _ => rfl))) (mss_cons (ms_set (i := 7) sc__law_a_value.nd rfl (by first | exact Or.inl rfl | exact Or.inr rfl) (me_cl D_rec hr (Nat.le_refl _) rfl (ma_cons (mv 0) (ma_cons (mv 1) (ma_cons (mv 2) (ma_cons (mv 3) (ma_cons (me_op op_sub pr_sub (mv 4) (me_int)) (ma_nil)))))))) (mss_cons (ms_if (mt_cmp (or_eq hr.units) pr_eq (mv 6) (me_str) (by rfl)) (mss_one (ms_ret (me_tup (ma_cons (mv 6) (ma_cons (mv 7) (ma_cons (me_tup (ma_cons (me_str) (ma_cons (me_op op_sub pr_sub (me_cl D__law_draw hr (by omega) rfl (ma_cons (mv 0) (ma_cons (mv 1) (ma_cons (me_int) (ma_nil))))) (me_int)) (ma_nil)))) (ma_nil))))))) (mss_nil)) (mss_one (ms_ret (me_tup (ma_cons (mv 6) (ma_cons (mv 7) (ma_cons (me_cl D_rec hr (Nat.le_refl _) rfl (ma_cons (mv 0) (ma_cons (mv 1) (ma_cons (mv 2) (ma_cons (mv 3) (ma_cons (me_op op_sub pr_sub (mv 4) (me_int)) (ma_nil))))))) (ma_nil)))))))))))))
abbrev s__law_a_nest : Stmt := top 36
theorem sc__law_a_nest : FnScope ["script", "town", "loops", "name", "k", "tables", "sizes", "body", "value", "first", "step", "table", "places"] ["script", "town"] (defScope s__law_a_nest) := ⟨rfl, rfl, rfl, by decide +kernel, rfl, by decide +kernel, by decide +kernel⟩
noncomputable def w__law_a_nest_2 : En → Sto → Rs Fl := sSeq (sPar 9 10 (aCons (m2 opSub (mN (mCl 3 m__law_draw) (aCons (mV 0) (aCons (mV 1) (aCons (mC (.int 4)) (aNil))))) (mC (.int 1))) (aCons (m2 opAdd (mC (.int 1)) (m2 opFdiv (mN (mCl 3 m__law_draw) (aCons (mV 0) (aCons (mV 1) (aCons (mC (.int 5)) (aNil))))) (mC (.int 4)))) (aNil)))) (sExpr (mMeth fAppend (mV 2) (aCons (mTup (aCons (mV 3) (aCons (mV 9) (aCons (m2 opAdd (m2 opAdd (mV 9) (m2 opMul (mV 10) (mN (mCl 3 m__law_draw) (aCons (mV 0) (aCons (mV 1) (aCons (mC (.int 3)) (aNil))))))) (mC (.int 1))) (aCons (mV 10) (aNil)))))) (aNil))))
noncomputable def w__law_a_nest_6 : En → Sto → Rs Fl := sSeq (sAsg (mN (mCl 5 (m__law_a_value 8)) (aCons (mV 0) (aCons (mV 1) (aCons (mV 2) (aCons (mV 6) (aCons (mC (.int 2)) (aNil))))))) (gN 8)) (sSeq (sAsg (mN (mCl 4 m__law_an_at) (aCons (mV 0) (aCons (mV 1) (aCons (mV 2) (aCons (mV 6) (aNil)))))) (gT 2 (gCons (gN 11) (gCons (gN 12) (gNil))))) (sExpr (mMeth fAppend (mV 7) (aCons (mTup (aCons (m2 opIx (mLst (aCons (mC (.str "set")) (aCons (mC (.str "add")) (aNil)))) (mN (mCl 3 m__law_draw) (aCons (mV 0) (aCons (mV 1) (aCons (mC (.int 2)) (aNil)))))) (aCons (mV 11) (aCons (mV 12) (aCons (mV 8) (aNil)))))) (aNil)))))
noncomputable def b__law_a_nest : En → Sto → Rs Fl := sSeq (sAsg (mLst (aNil)) (gN 2)) (sSeq (sFor (iA (mSl (mTup (aCons (mC (.str "i")) (aCons (mC (.str "j")) (aCons (mC (.str "k")) (aNil))))) (oNone) (oSome (m2 opAdd (mC (.int 1)) (mN (mCl 3 m__law_draw) (aCons (mV 0) (aCons (mV 1) (aCons (mC (.int 3)) (aNil))))))))) (gN 3) (w__law_a_nest_2)) (sSeq (sAsg (mTup (aCons (mDisp [(mC (.str "a"), mLst (aCons (mC (.int 1)) (aNil))), (mC (.str "b"), mLst (aCons (mC (.int 1)) (aCons (mC (.int 1)) (aNil))))]) (aCons (mLst (aNil)) (aNil)))) (gT 2 (gCons (gN 6) (gCons (gN 7) (gNil))))) (sSeq (sFor (fun E S => ((aCons (m2 opAdd (mC (.int 1)) (mN (mCl 3 m__law_draw) (aCons (mV 0) (aCons (mV 1) (aCons (mC (.int 2)) (aNil)))))) (aNil)) E S).bind aiR1) (gN 4) (w__law_a_nest_6)) (sSeq (sAsg (mTL fTupPTL (mComp (iA (mTup (aCons (mC (.str "a")) (aCons (mC (.str "b")) (aNil))))) [3] (gN 3) (tYesM) (mTup (aCons (mV 3) (aCons (mN fTup (aCons (m2 opIx (mV 6) (mV 3)) (aNil))) (aNil)))))) (gN 5)) (sRet (mTup (aCons (mV 5) (aCons (mN fTup (aCons (mV 2) (aNil))) (aCons (mN fTup (aCons (mV 7) (aNil))) (aNil))))))))))
noncomputable def m__law_a_nest : List D → Sto → Rs D := mDef 13 (b__law_a_nest)
theorem ok__law_a_nest {P : Program} {w : World} {K : PySem.W.Frag} {mg : Str → Option Value} {base : Heap} (F : ∃ fd, FunD K "_law_a_nest" "_law_a_nest" (defArgs s__law_a_nest) (defBody s__law_a_nest) (defScope s__law_a_nest) [] [] (He.ga K "_law_a_nest") fd) (hm : mg "_law_a_nest" = some (.ref (He.ga K "_law_a_nest"))) (D__law_draw : DefAt P w K mg base 1 "_law_draw" 3 m__law_draw) (f_range : mg "range" = none) (D__law_a_value : DefAt P w K mg base 12 "_law_a_value" 5 (m__law_a_value 8)) (D__law_an_at : DefAt P w K mg base 3 "_law_an_at" 4 m__law_an_at) (f_tuple : mg "tuple" = none) :
    DefAt P w K mg base 13 "_law_a_nest" 2 m__law_a_nest :=
  defAt (k := 12) (mb := b__law_a_nest) F hm sc__law_a_nest (fun _ _ _ _ _ _ us hl => match us, hl with | [_, _], _ => rfl) fun A outer s H E hr => by
    exact mss_cons (ms_set (i := 2) sc__law_a_nest.nd rfl (by first | exact Or.inl rfl | exact Or.inr rfl) (me_lst (ma_nil))) (mss_cons (ms_for PassesOwn.never rfl (mi_any (me_slice (me_tup (ma_cons (me_str) (ma_cons (me_str) (ma_cons (me_str) (ma_nil))))) (mo_none) (mo_some (me_op or_add pr_add (me_int) (me_cl D__law_draw hr (by decide) rfl (ma_cons (mv 0) (ma_cons (mv 1) (ma_cons (me_int) (ma_nil))))))))) (mg_name (i := 3) sc__law_a_nest.nd rfl (by first | exact Or.inl rfl | exact Or.inr rfl)) (mss_cons (ms_par (i := 9) (j := 10) rfl sc__law_a_nest.nd rfl rfl (by decide) rfl rfl (ma_cons (me_op op_sub pr_sub (me_cl D__law_draw hr (by decide) rfl (ma_cons (mv 0) (ma_cons (mv 1) (ma_cons (me_int) (ma_nil))))) (me_int)) (ma_cons (me_op or_add pr_add (me_int) (me_op op_fdiv pr_fdiv (me_cl D__law_draw hr (by decide) rfl (ma_cons (mv 0) (ma_cons (mv 1) (ma_cons (me_int) (ma_nil))))) (me_int))) (ma_nil))) (by rfl)) (mss_one (ms_expr (me_meth PySem.F.slot_list_append PySem.F.type_list_append mt_append pr_append (mv 2) (ma_cons (me_tup (ma_cons (mv 3) (ma_cons (mv 9) (ma_cons (me_op or_add pr_add (me_op or_add pr_add (mv 9) (me_op op_mul pr_mul (mv 10) (me_cl D__law_draw hr (by decide) rfl (ma_cons (mv 0) (ma_cons (mv 1) (ma_cons (me_int) (ma_nil))))))) (me_int)) (ma_cons (mv 10) (ma_nil)))))) (ma_nil))))))) (mss_cons (ms_asg (me_tup (ma_cons (me_disp (ms := [(mC (.str "a"), mLst (aCons (mC (.int 1)) (aNil))), (mC (.str "b"), mLst (aCons (mC (.int 1)) (aCons (mC (.int 1)) (aNil))))]) (pps_cons (me_str) (me_lst (ma_cons (me_int) (ma_nil))) (pps_cons (me_str) (me_lst (ma_cons (me_int) (ma_cons (me_int) (ma_nil)))) (pps_nil))) rfl rfl (by simp) (by decide)) (ma_cons (me_lst (ma_nil)) (ma_nil)))) (mg_tup rfl (mgs_cons (mg_name (i := 6) sc__law_a_nest.nd rfl (by first | exact Or.inl rfl | exact Or.inr rfl)) (mgs_cons (mg_name (i := 7) sc__law_a_nest.nd rfl (by first | exact Or.inl rfl | exact Or.inr rfl)) (mgs_nil))))) (mss_cons (ms_for PassesOwn.never rfl (mi_range1 rfl f_range (ma_cons (me_op or_add pr_add (me_int) (me_cl D__law_draw hr (by decide) rfl (ma_cons (mv 0) (ma_cons (mv 1) (ma_cons (me_int) (ma_nil)))))) (ma_nil))) (mg_name (i := 4) sc__law_a_nest.nd rfl (by first | exact Or.inl rfl | exact Or.inr rfl)) (mss_cons (ms_set (i := 8) sc__law_a_nest.nd rfl (by first | exact Or.inl rfl | exact Or.inr rfl) (me_cl D__law_a_value hr (by decide) rfl (ma_cons (mv 0) (ma_cons (mv 1) (ma_cons (mv 2) (ma_cons (mv 6) (ma_cons (me_int) (ma_nil)))))))) (mss_cons (ms_asg (me_cl D__law_an_at hr (by decide) rfl (ma_cons (mv 0) (ma_cons (mv 1) (ma_cons (mv 2) (ma_cons (mv 6) (ma_nil)))))) (mg_tup rfl (mgs_cons (mg_name (i := 11) sc__law_a_nest.nd rfl (by first | exact Or.inl rfl | exact Or.inr rfl)) (mgs_cons (mg_name (i := 12) sc__law_a_nest.nd rfl (by first | exact Or.inl rfl | exact Or.inr rfl)) (mgs_nil))))) (mss_one (ms_expr (me_meth PySem.F.slot_list_append PySem.F.type_list_append mt_append pr_append (mv 7) (ma_cons (me_tup (ma_cons (me_ix (or_ix (hu_of hr)) pr_ix (me_lst (ma_cons (me_str) (ma_cons (me_str) (ma_nil)))) (me_cl D__law_draw hr (by decide) rfl (ma_cons (mv 0) (ma_cons (mv 1) (ma_cons (me_int) (ma_nil))))) (fun _ _ => rfl)) (ma_cons (mv 11) (ma_cons (mv 12) (ma_cons (mv 8) (ma_nil)))))) (ma_nil)))))))) (mss_cons (ms_set (i := 5) sc__law_a_nest.nd rfl (by first | exact Or.inl rfl | exact Or.inr rfl) (me_tlTy call_tupP pr_tupPTL rfl f_tuple PyProof.Rows.boot_tuple (tl_lc (own := [("name", 3)]) rfl sc__law_a_nest.nd (mi_any (me_tup (ma_cons (me_str) (ma_cons (me_str) (ma_nil))))) (blkOk_by (by kernel_rfl)) (fun _ _ _ _ _ => mgo_name (i := 3) (by decide) sc__law_a_nest.nd rfl (by first | exact Or.inl rfl | exact Or.inr rfl)) (fun _ _ _ _ _ => mts_nil) (fun _ _ _ _ _ => me_tup (ma_cons (mv 3) (ma_cons (me_callTy call_tuple_of pr_tup rfl f_tuple PyProof.Rows.boot_tuple (ma_cons (me_ix (or_ix (hu_of hr)) pr_ix (mv 6) (mv 3) (fun _ _ => rfl)) (ma_nil))) (ma_nil))))))) (mss_one (ms_ret (me_tup (ma_cons (mv 5) (ma_cons (me_callTy call_tuple_of pr_tup rfl f_tuple PyProof.Rows.boot_tuple (ma_cons (mv 2) (ma_nil))) (ma_cons (me_callTy call_tuple_of pr_tup rfl f_tuple PyProof.Rows.boot_tuple (ma_cons (mv 7) (ma_nil))) (ma_nil)))))))))))
abbrev s__law_points : Stmt := top 37
theorem sc__law_points : FnScope ["nest", "found", "loop", "new", "told", "value"] ["nest"] (defScope s__law_points) := ⟨rfl, rfl, rfl, by decide +kernel, rfl, by decide +kernel, by decide +kernel⟩
noncomputable def w__law_points_5 : En → Sto → Rs Fl := sExpr (mMeth fAppend (mV 3) (aCons (mN fDict (aCons (m2 opAdd (m1 fListItems (mV 4)) (mLst (aCons (mTup (aCons (m2 opIx (mV 2) (mC (.int 0))) (aCons (mV 5) (aNil)))) (aNil)))) (aNil))) (aNil)))
noncomputable def w__law_points_4 : En → Sto → Rs Fl := sFor (iA (mN (mCl 1 m__law_loop_values) (aCons (mV 2) (aNil)))) (gN 5) (w__law_points_5)
noncomputable def w__law_points_2 : En → Sto → Rs Fl := sSeq (sAsg (mLst (aNil)) (gN 3)) (sSeq (sFor (iA (mV 1)) (gN 4) (w__law_points_4)) (sAsg (mV 3) (gN 1)))
noncomputable def b__law_points : En → Sto → Rs Fl := sSeq (sAsg (mLst (aCons (mDnew) (aNil))) (gN 1)) (sSeq (sFor (iA (m2 opIx (mV 0) (mC (.int 1)))) (gN 2) (w__law_points_2)) (sRet (mV 1)))
noncomputable def m__law_points : List D → Sto → Rs D := mDef 6 (b__law_points)
theorem ok__law_points {P : Program} {w : World} {K : PySem.W.Frag} {mg : Str → Option Value} {base : Heap} (F : ∃ fd, FunD K "_law_points" "_law_points" (defArgs s__law_points) (defBody s__law_points) (defScope s__law_points) [] [] (He.ga K "_law_points") fd) (hm : mg "_law_points" = some (.ref (He.ga K "_law_points"))) (D__law_loop_values : DefAt P w K mg base 1 "_law_loop_values" 1 m__law_loop_values) (f_dict : mg "dict" = none) (f_list : mg "list" = none) :
    DefAt P w K mg base 2 "_law_points" 1 m__law_points :=
  defAt (k := 1) (mb := b__law_points) F hm sc__law_points (fun _ _ _ _ _ _ us hl => match us, hl with | [_], _ => rfl) fun A outer s H E hr => by
    exact mss_cons (ms_set (i := 1) sc__law_points.nd rfl (by first | exact Or.inl rfl | exact Or.inr rfl) (me_lst (ma_cons (me_dnew) (ma_nil)))) (mss_cons (ms_for PassesOwn.never rfl (mi_any (me_ix (or_ix (hu_of hr)) pr_ix (mv 0) (me_int) (fun _ _ => rfl))) (mg_name (i := 2) sc__law_points.nd rfl (by first | exact Or.inl rfl | exact Or.inr rfl)) (mss_cons (ms_set (i := 3) sc__law_points.nd rfl (by first | exact Or.inl rfl | exact Or.inr rfl) (me_lst (ma_nil))) (mss_cons (ms_for PassesOwn.never rfl (mi_any (mv 1)) (mg_name (i := 4) sc__law_points.nd rfl (by first | exact Or.inl rfl | exact Or.inr rfl)) (mss_one (ms_for PassesOwn.never rfl (mi_any (me_cl D__law_loop_values hr (by decide) rfl (ma_cons (mv 2) (ma_nil)))) (mg_name (i := 5) sc__law_points.nd rfl (by first | exact Or.inl rfl | exact Or.inr rfl)) (mss_one (ms_expr (me_meth PySem.F.slot_list_append PySem.F.type_list_append mt_append pr_append (mv 3) (ma_cons (me_callTy (cr_dictP rfl) pr_dict rfl f_dict PyProof.Rows.boot_dict (ma_cons (me_op or_add pr_add (me_listItems rfl (mv 4) rfl f_list) (me_lst (ma_cons (me_tup (ma_cons (me_ix (or_ix (hu_of hr)) pr_ix (mv 2) (me_int) (fun _ _ => rfl)) (ma_cons (mv 5) (ma_nil)))) (ma_nil)))) (ma_nil))) (ma_nil)))))))) (mss_one (ms_set (i := 1) sc__law_points.nd rfl (by first | exact Or.inl rfl | exact Or.inr rfl) (mv 3)))))) (mss_one (ms_ret (mv 1))))
abbrev s__law_cell : Stmt := top 38
theorem sc__law_cell : FnScope ["table", "places", "told", "row", "number", "factors", "name", "factor"] ["table", "places", "told"] (defScope s__law_cell) := ⟨rfl, rfl, rfl, by decide +kernel, rfl, by decide +kernel, by decide +kernel⟩
noncomputable def w__law_cell_2 : En → Sto → Rs Fl := sExpr (mMeth fAppend (mV 3) (aCons (m2 opAdd (mV 4) (mTL fSum (mComp (iA (mV 5)) [6, 7] (gT 2 (gCons (gN 6) (gCons (gN 7) (gNil)))) (tYesM) (m2 opMul (m2 opIx (mV 2) (mV 6)) (mV 7))))) (aNil)))
noncomputable def b__law_cell : En → Sto → Rs Fl := sSeq (sAsg (mLst (aNil)) (gN 3)) (sSeq (sFor (iA (mV 1)) (gT 2 (gCons (gN 4) (gCons (gN 5) (gNil)))) (w__law_cell_2)) (sRet (mTup (aCons (mV 0) (aCons (mN fTup (aCons (mV 3) (aNil))) (aNil))))))
noncomputable def m__law_cell : List D → Sto → Rs D := mDef 8 (b__law_cell)
theorem ok__law_cell {P : Program} {w : World} {K : PySem.W.Frag} {mg : Str → Option Value} {base : Heap} (F : ∃ fd, FunD K "_law_cell" "_law_cell" (defArgs s__law_cell) (defBody s__law_cell) (defScope s__law_cell) [] [] (He.ga K "_law_cell") fd) (hm : mg "_law_cell" = some (.ref (He.ga K "_law_cell"))) (f_sum : mg "sum" = none) (f_tuple : mg "tuple" = none) :
    DefAt P w K mg base 1 "_law_cell" 3 m__law_cell :=
  defAt (k := 0) (mb := b__law_cell) F hm sc__law_cell (fun _ _ _ _ _ _ us hl => match us, hl with | [_, _, _], _ => rfl) fun A outer s H E hr => by
    exact mss_cons (ms_set (i := 3) sc__law_cell.nd rfl (by first | exact Or.inl rfl | exact Or.inr rfl) (me_lst (ma_nil))) (mss_cons (ms_for PassesOwn.never rfl (mi_any (mv 1)) (mg_tup rfl (mgs_cons (mg_name (i := 4) sc__law_cell.nd rfl (by first | exact Or.inl rfl | exact Or.inr rfl)) (mgs_cons (mg_name (i := 5) sc__law_cell.nd rfl (by first | exact Or.inl rfl | exact Or.inr rfl)) (mgs_nil)))) (mss_one (ms_expr (me_meth PySem.F.slot_list_append PySem.F.type_list_append mt_append pr_append (mv 3) (ma_cons (me_op or_add pr_add (mv 4) (me_tlB (cr_sum rfl) pr_sumTL rfl f_sum PyProof.Rows.boot_sum (tl_lc (own := [("name", 6), ("factor", 7)]) rfl sc__law_cell.nd (mi_any (mv 5)) (blkOk_by (by kernel_rfl)) (fun _ _ _ _ _ => mgo_tup rfl (mgos_cons (mgo_name (i := 6) (by decide) sc__law_cell.nd rfl (by first | exact Or.inl rfl | exact Or.inr rfl)) (mgos_cons (mgo_name (i := 7) (by decide) sc__law_cell.nd rfl (by first | exact Or.inl rfl | exact Or.inr rfl)) (mgos_nil)))) (fun _ _ _ _ _ => mts_nil) (fun _ _ _ _ _ => me_op op_mul pr_mul (me_ix (or_ix (hu_of hr)) pr_ix (mv 2) (mv 6) (fun _ _ => rfl)) (mv 7))))) (ma_nil)))))) (mss_one (ms_ret (me_tup (ma_cons (mv 0) (ma_cons (me_callTy call_tuple_of pr_tup rfl f_tuple PyProof.Rows.boot_tuple (ma_cons (mv 3) (ma_nil))) (ma_nil)))))))
abbrev s__law_read_cells : Stmt := top 39
theorem sc__law_read_cells : FnScope ["value", "told"] ["value", "told"] (defScope s__law_read_cells) := ⟨rfl, rfl, rfl, by decide +kernel, rfl, by decide +kernel, by decide +kernel⟩
noncomputable def b__law_read_cells (rec : List D → Sto → Rs D) : En → Sto → Rs Fl := sSeq (sIf (tB (m2 opIn (m2 opIx (mV 0) (mC (.int 0))) (mTup (aCons (mC (.str "num")) (aCons (mC (.str "loop")) (aNil)))))) (sRet (mLst (aNil))) (sNil)) (sSeq (sIf (tB (m2 opEq (m2 opIx (mV 0) (mC (.int 0))) (mC (.str "at")))) (sRet (mLst (aCons (mN (mCl 3 m__law_cell) (aCons (m2 opIx (mV 0) (mC (.int 1))) (aCons (m2 opIx (mV 0) (mC (.int 2))) (aCons (mV 1) (aNil))))) (aNil)))) (sNil)) (sRet (m2 opAdd (mN (mCl 2 rec) (aCons (m2 opIx (mV 0) (mC (.int 1))) (aCons (mV 1) (aNil)))) (mN (mCl 2 rec) (aCons (m2 opIx (mV 0) (mC (.int 2))) (aCons (mV 1) (aNil)))))))
noncomputable def m__law_read_cells : Nat → List D → Sto → Rs D
  | 0 => mDef 2 (fun _ _ => .bad)
  | n + 1 => mDef 2 (b__law_read_cells (m__law_read_cells n))
theorem ok__law_read_cells {P : Program} {w : World} {K : PySem.W.Frag} {mg : Str → Option Value} {base : Heap} (F : ∃ fd, FunD K "_law_read_cells" "_law_read_cells" (defArgs s__law_read_cells) (defBody s__law_read_cells) (defScope s__law_read_cells) [] [] (He.ga K "_law_read_cells") fd) (hm : mg "_law_read_cells" = some (.ref (He.ga K "_law_read_cells"))) (D__law_cell : DefAt P w K mg base 1 "_law_cell" 3 m__law_cell) : ∀ n : Nat, DefAt P w K mg base (2 + n) "_law_read_cells" 2 (m__law_read_cells n)
  | 0 => defAt (k := 1) (mb := fun _ _ => .bad) F hm sc__law_read_cells (fun _ _ _ _ _ _ us hl => match us, hl with | [_, _], _ => rfl) fun A outer s H E hr => mss_bad
  | n + 1 => by
    have D_rec := ok__law_read_cells (P := P) (w := w) (base := base) F hm D__law_cell n
    exact defAt (k := 2 + n) (mb := b__law_read_cells (m__law_read_cells n)) F hm sc__law_read_cells (fun _ _ _ _ _ _ us hl => match us, hl with | [_, _], _ => rfl) fun A outer s H E hr => by
      exact mss_cons (ms_if (mt_cmp (or_in (hu_of hr)) pr_in (me_ix (or_ix (hu_of hr)) pr_ix (mv 0) (me_int) (fun _ _ => rfl)) (me_tup (ma_cons (me_str) (ma_cons (me_str) (ma_nil)))) (by rfl)) (mss_one (ms_ret (me_lst (ma_nil)))) (mss_nil)) (mss_cons (ms_if (mt_cmp (or_eq hr.units) pr_eq (me_ix (or_ix (hu_of hr)) pr_ix (mv 0) (me_int) (fun _ _ => rfl)) (me_str) (by rfl)) (mss_one (ms_ret (me_lst (ma_cons (me_cl D__law_cell hr (by omega) rfl (ma_cons (me_ix (or_ix (hu_of hr)) pr_ix (mv 0) (me_int) (fun _ _ => rfl)) (ma_cons (me_ix (or_ix (hu_of hr)) pr_ix (mv 0) (me_int) (fun _ _ => rfl)) (ma_cons (mv 1) (ma_nil))))) (ma_nil))))) (mss_nil)) (mss_one (ms_ret (me_op or_add pr_add (me_cl D_rec hr (Nat.le_refl _) rfl (ma_cons (me_ix (or_ix (hu_of hr)) pr_ix (mv 0) (me_int) (fun _ _ => rfl)) (ma_cons (mv 1) (ma_nil)))) (me_cl D_rec hr (Nat.le_refl _) rfl (ma_cons (me_ix (or_ix (hu_of hr)) pr_ix (mv 0) (me_int) (fun _ _ => rfl)) (ma_cons (mv 1) (ma_nil))))))))
abbrev s__law_touched : Stmt := top 40
theorem sc__law_touched : FnScope ["nest", "found", "told", "word", "table", "places", "value", "cell", "reads"] ["nest"] (defScope s__law_touched) := ⟨rfl, rfl, rfl, by decide +kernel, rfl, by decide +kernel, by decide +kernel⟩
noncomputable def w__law_touched_3 : En → Sto → Rs Fl := sSeq (sAsg (mN (mCl 3 m__law_cell) (aCons (mV 4) (aCons (mV 5) (aCons (mV 2) (aNil))))) (gN 7)) (sSeq (sAsg (m2 opAdd (mN (mCl 2 (m__law_read_cells 8)) (aCons (mV 6) (aCons (mV 2) (aNil)))) (mIfE (tB (m2 opEq (mV 3) (mC (.str "add")))) (mLst (aCons (mV 7) (aNil))) (mLst (aNil)))) (gN 8)) (sExpr (mMeth fAppend (mV 1) (aCons (mTup (aCons (mV 8) (aCons (mV 7) (aNil)))) (aNil)))))
noncomputable def w__law_touched_2 : En → Sto → Rs Fl := sFor (iA (m2 opIx (mV 0) (mC (.int 2)))) (gT 4 (gCons (gN 3) (gCons (gN 4) (gCons (gN 5) (gCons (gN 6) (gNil)))))) (w__law_touched_3)
noncomputable def b__law_touched : En → Sto → Rs Fl := sSeq (sAsg (mLst (aNil)) (gN 1)) (sSeq (sFor (iA (mN (mCl 1 m__law_points) (aCons (mV 0) (aNil)))) (gN 2) (w__law_touched_2)) (sRet (mV 1)))
noncomputable def m__law_touched : List D → Sto → Rs D := mDef 9 (b__law_touched)
theorem ok__law_touched {P : Program} {w : World} {K : PySem.W.Frag} {mg : Str → Option Value} {base : Heap} (F : ∃ fd, FunD K "_law_touched" "_law_touched" (defArgs s__law_touched) (defBody s__law_touched) (defScope s__law_touched) [] [] (He.ga K "_law_touched") fd) (hm : mg "_law_touched" = some (.ref (He.ga K "_law_touched"))) (D__law_points : DefAt P w K mg base 2 "_law_points" 1 m__law_points) (D__law_cell : DefAt P w K mg base 1 "_law_cell" 3 m__law_cell) (D__law_read_cells : DefAt P w K mg base 10 "_law_read_cells" 2 (m__law_read_cells 8)) :
    DefAt P w K mg base 11 "_law_touched" 1 m__law_touched :=
  defAt (k := 10) (mb := b__law_touched) F hm sc__law_touched (fun _ _ _ _ _ _ us hl => match us, hl with | [_], _ => rfl) fun A outer s H E hr => by
    exact mss_cons (ms_set (i := 1) sc__law_touched.nd rfl (by first | exact Or.inl rfl | exact Or.inr rfl) (me_lst (ma_nil))) (mss_cons (ms_for PassesOwn.never rfl (mi_any (me_cl D__law_points hr (by decide) rfl (ma_cons (mv 0) (ma_nil)))) (mg_name (i := 2) sc__law_touched.nd rfl (by first | exact Or.inl rfl | exact Or.inr rfl)) (mss_one (ms_for PassesOwn.never rfl (mi_any (me_ix (or_ix (hu_of hr)) pr_ix (mv 0) (me_int) (fun _ _ => rfl))) (mg_tup rfl (mgs_cons (mg_name (i := 3) sc__law_touched.nd rfl (by first | exact Or.inl rfl | exact Or.inr rfl)) (mgs_cons (mg_name (i := 4) sc__law_touched.nd rfl (by first | exact Or.inl rfl | exact Or.inr rfl)) (mgs_cons (mg_name (i := 5) sc__law_touched.nd rfl (by first | exact Or.inl rfl | exact Or.inr rfl)) (mgs_cons (mg_name (i := 6) sc__law_touched.nd rfl (by first | exact Or.inl rfl | exact Or.inr rfl)) (mgs_nil)))))) (mss_cons (ms_set (i := 7) sc__law_touched.nd rfl (by first | exact Or.inl rfl | exact Or.inr rfl) (me_cl D__law_cell hr (by decide) rfl (ma_cons (mv 4) (ma_cons (mv 5) (ma_cons (mv 2) (ma_nil)))))) (mss_cons (ms_set (i := 8) sc__law_touched.nd rfl (by first | exact Or.inl rfl | exact Or.inr rfl) (me_op or_add pr_add (me_cl D__law_read_cells hr (by decide) rfl (ma_cons (mv 6) (ma_cons (mv 2) (ma_nil)))) (me_if (mt_cmp (or_eq hr.units) pr_eq (mv 3) (me_str) (by rfl)) (me_lst (ma_cons (mv 7) (ma_nil))) (me_lst (ma_nil))))) (mss_one (ms_expr (me_meth PySem.F.slot_list_append PySem.F.type_list_append mt_append pr_append (mv 1) (ma_cons (me_tup (ma_cons (mv 8) (ma_cons (mv 7) (ma_nil)))) (ma_nil)))))))))) (mss_one (ms_ret (mv 1))))
abbrev s_law : Stmt := top 41
theorem sc_law : FnScope ["script", "town", "k", "nest", "rows", "due", "row", "touched", "n_here", "pair", "told", "loop", "number"] ["script"] (defScope s_law) := ⟨rfl, rfl, rfl, by decide +kernel, rfl, by decide +kernel, by decide +kernel⟩
noncomputable def w_law_8 (P_law : Addr) : En → Sto → Rs Fl := sAsg (m2 opAdd (mV 5) (mAd (mComp (fun E S => ((aCons (mN fLen (aCons (m2 opIx (mV 3) (mC (.int 2))) (aNil))) (aNil)) E S).bind aiR1) [12] (gN 12) (tYesM) (mTup (aCons (mV 6) (aCons (mV 12) (aNil))))))) (gN 5)
noncomputable def w_law_11 (P_law : Addr) : En → Sto → Rs Fl := sSeq (sIf (tB (m2 opNe (mN (mCl 2 m_instance_of) (aCons (mV 3) (aCons (mV 8) (aNil)))) (mV 9))) (sRet (mC (.bl false))) (sNil)) (sIf (tB (m2 opNe (mTup (aCons (mN fList (aCons (mN (mCl 2 m_reads_of) (aCons (mV 3) (aCons (mV 8) (aNil)))) (aNil))) (aCons (mNK 1 1 (mCl 2 m_writes_of) (aCons (mV 3) (aNil)) (aCons (mV 8) (aNil))) (aNil)))) (m2 opIx (mV 7) (mV 8)))) (sRet (mC (.bl false))) (sNil))
noncomputable def w_law_16 (P_law : Addr) : En → Sto → Rs Fl := sIf (tB (m2 opNe (mLam P_law "law.<locals>.<lambda>" 0 (okL ["NoInstance"]) 7 h__law_heard (mN (mClX 2 m_instance_of) (aCons (mV 3) (aCons (mV 8) (aNil))))) (mTup (aCons (mC (.str "no instance")) (aNil))))) (sRet (mC (.bl false))) (sNil)
noncomputable def w_law_2 (P_law : Addr) : En → Sto → Rs Fl := sSeq (sAsg (mN (mCl 2 m__law_a_nest) (aCons (mV 0) (aCons (mV 1) (aNil)))) (gN 3)) (sSeq (sAsg (mAd (mComp (iA (mN (mCl 1 m__law_points) (aCons (mV 3) (aNil)))) [10] (gN 10) (tYesM) (mTL fTupTL (mComp (iA (m2 opIx (mV 3) (mC (.int 1)))) [11] (gN 11) (tYesM) (m2 opIx (mV 10) (m2 opIx (mV 11) (mC (.int 0)))))))) (gN 4)) (sSeq (sIf (tB (m2 opNe (mN (mCl 1 m_points_of) (aCons (mV 3) (aNil))) (mN fTup (aCons (mV 4) (aNil))))) (sRet (mC (.bl false))) (sNil)) (sSeq (sAsg (mLst (aNil)) (gN 5)) (sSeq (sFor (iA (mV 4)) (gN 6) (w_law_8 P_law)) (sSeq (sAsg (mN (mCl 1 m__law_touched) (aCons (mV 3) (aNil))) (gN 7)) (sSeq (sFor (iEn (aCons (mV 5) (aNil))) (gT 2 (gCons (gN 8) (gCons (gN 9) (gNil)))) (w_law_11 P_law)) (sSeq (sFor (iA (mTup (aCons (m1 opNeg (mC (.int 1))) (aCons (mN fLen (aCons (mV 5) (aNil))) (aCons (mC .non) (aCons (mC (.bl true)) (aNil))))))) (gN 8) (w_law_16 P_law)) (sSeq (sIf (tB (m2 opNe (mLam P_law "law.<locals>.<lambda>" 0 (okL ["NoInstance"]) 7 h__law_heard (mN (mClX 2 m_reads_of) (aCons (mV 3) (aCons (mN fLen (aCons (mV 5) (aNil))) (aNil))))) (mTup (aCons (mC (.str "no instance")) (aNil))))) (sRet (mC (.bl false))) (sNil)) (sIf (tB (m2 opNe (mLam P_law "law.<locals>.<lambda>" 0 (okL ["NoInstance"]) 7 h__law_heard (mN (mClX 2 m_writes_of) (aCons (mV 3) (aCons (m1 opNeg (mC (.int 2))) (aNil))))) (mTup (aCons (mC (.str "no instance")) (aNil))))) (sRet (mC (.bl false))) (sNil))))))))))
noncomputable def l_0 (P_law : Addr) : En → Sto → Rs Fl := sAsg (mN (mCl 0 m__law_begun) aNil) (gN 1)
noncomputable def l_1 (P_law : Addr) : En → Sto → Rs Fl := sFor (fun E S => ((aCons (mC (.int 2)) (aNil)) E S).bind aiR1) (gN 2) (w_law_2 P_law)
noncomputable def l_2 (P_law : Addr) : En → Sto → Rs Fl := sRet (mC (.bl true))
noncomputable def b_law (P_law : Addr) : En → Sto → Rs Fl := sSeq (l_0 P_law) (sSeq (l_1 P_law) (l_2 P_law))
noncomputable def m_law (P_law : Addr) : List D → Sto → Rs D := mDef 13 (b_law P_law)
theorem ok_law {P : Program} {w : World} {K : PySem.W.Frag} {mg : Str → Option Value} {base : Heap} {P_law : Addr} {fd : FuncData} (F : FunD K "law" "law" (defArgs s_law) (defBody s_law) (defScope s_law) [] [] (He.ga K "law") fd) (D__law_begun : DefAt P w K mg base 1 "_law_begun" 0 m__law_begun) (f_range : mg "range" = none) (D__law_a_nest : DefAt P w K mg base 13 "_law_a_nest" 2 m__law_a_nest) (D__law_points : DefAt P w K mg base 2 "_law_points" 1 m__law_points) (f_tuple : mg "tuple" = none) (D_points_of : DefAt P w K mg base 2 "points_of" 1 m_points_of) (f_len : mg "len" = none) (D__law_touched : DefAt P w K mg base 11 "_law_touched" 1 m__law_touched) (f_enumerate : mg "enumerate" = none) (D_instance_of : DefAt P w K mg base 3 "instance_of" 2 m_instance_of) (DK_writes_of : DefK P w K mg base 5 "writes_of" s_writes_of ["nest", "n"] m_writes_of) (f_list : mg "list" = none) (D_reads_of : DefAt P w K mg base 10 "reads_of" 2 m_reads_of) (DH__law_heard : DefH P w K mg base 11 "_law_heard" 7 (okL ["NoInstance"]) h__law_heard) (T_law : LamX.TabB base mg (He.codeOf K ("law", none)) P_law) (DX_instance_of : DefX P w K mg base 3 "instance_of" 2 m_instance_of) (DX_reads_of : DefX P w K mg base 10 "reads_of" 2 m_reads_of) (DX_writes_of : DefX P w K mg base 5 "writes_of" 2 m_writes_of) :
    FnOk P w K mg base CX0 14 (He.ga K "law") fd ["script"] (spM ⟨K, P, w⟩ 1 (m_law P_law)) :=
  ok_defC (k := 13) (mb := b_law P_law) F sc_law fun A outer s H E hr => by
    exact mss_cons (ms_set (i := 1) sc_law.nd rfl (by first | exact Or.inl rfl | exact Or.inr rfl) (me_cl0 D__law_begun hr (by decide) rfl)) (mss_cons (ms_for PassesOwn.never rfl (mi_range1 rfl f_range (ma_cons (me_int) (ma_nil))) (mg_name (i := 2) sc_law.nd rfl (by first | exact Or.inl rfl | exact Or.inr rfl)) (mss_cons (ms_set (i := 3) sc_law.nd rfl (by first | exact Or.inl rfl | exact Or.inr rfl) (me_cl D__law_a_nest hr (by decide) rfl (ma_cons (mv 0) (ma_cons (mv 1) (ma_nil))))) (mss_cons (ms_setLc (i := 4) (own := [("told", 10)]) rfl sc_law.nd rfl rfl (sw_true rfl rfl rfl (by kernel_rfl)) (mi_any (me_cl D__law_points hr (by decide) rfl (ma_cons (mv 3) (ma_nil)))) (blkOk_by (by kernel_rfl)) (fun _ _ _ _ _ => mgo_name (i := 10) (by decide) sc_law.nd rfl (by first | exact Or.inl rfl | exact Or.inr rfl)) (fun _ _ _ _ _ => mts_nil) (fun _ _ _ _ _ => me_tlTy call_tuple_of pr_tupTL rfl f_tuple PyProof.Rows.boot_tuple (tl_lc (own := [("loop", 11)]) rfl sc_law.nd (mi_any (me_ix (or_ix (hu_of hr)) pr_ix (mv 3) (me_int) (fun _ _ => rfl))) (blkOk_by (by kernel_rfl)) (fun _ _ _ _ _ => mgo_name (i := 11) (by decide) sc_law.nd rfl (by first | exact Or.inl rfl | exact Or.inr rfl)) (fun _ _ _ _ _ => mts_nil) (fun _ _ _ _ _ => me_ix (or_ix (hu_of hr)) pr_ix (mv 10) (me_ix (or_ix (hu_of hr)) pr_ix (mv 11) (me_int) (fun _ _ => rfl)) (fun _ _ => rfl))))) (mss_cons (ms_if (mt_cmp (or_ne hr.units) pr_ne (me_cl D_points_of hr (by decide) rfl (ma_cons (mv 3) (ma_nil))) (me_callTy call_tuple_of pr_tup rfl f_tuple PyProof.Rows.boot_tuple (ma_cons (mv 4) (ma_nil))) (by rfl)) (mss_one (ms_ret (me_bl))) (mss_nil)) (mss_cons (ms_set (i := 5) sc_law.nd rfl (by first | exact Or.inl rfl | exact Or.inr rfl) (me_lst (ma_nil))) (mss_cons (ms_for PassesOwn.never rfl (mi_any (mv 4)) (mg_name (i := 6) sc_law.nd rfl (by first | exact Or.inl rfl | exact Or.inr rfl)) (mss_one (ms_set (i := 5) sc_law.nd rfl (by first | exact Or.inl rfl | exact Or.inr rfl) (me_op or_add pr_add (mv 5) (me_ad (tl_lc (own := [("number", 12)]) rfl sc_law.nd (mi_range1 rfl f_range (ma_cons (me_callB cr_len pr_len rfl f_len PySem.boot_len (ma_cons (me_ix (or_ix (hu_of hr)) pr_ix (mv 3) (me_int) (fun _ _ => rfl)) (ma_nil))) (ma_nil))) (blkOk_by (by kernel_rfl)) (fun _ _ _ _ _ => mgo_name (i := 12) (by decide) sc_law.nd rfl (by first | exact Or.inl rfl | exact Or.inr rfl)) (fun _ _ _ _ _ => mts_nil) (fun _ _ _ _ _ => me_tup (ma_cons (mv 6) (ma_cons (mv 12) (ma_nil)))))))))) (mss_cons (ms_set (i := 7) sc_law.nd rfl (by first | exact Or.inl rfl | exact Or.inr rfl) (me_cl D__law_touched hr (by decide) rfl (ma_cons (mv 3) (ma_nil)))) (mss_cons (ms_for PassesOwn.never rfl (mi_enum rfl f_enumerate (ma_cons (mv 5) (ma_nil))) (mg_tup rfl (mgs_cons (mg_name (i := 8) sc_law.nd rfl (by first | exact Or.inl rfl | exact Or.inr rfl)) (mgs_cons (mg_name (i := 9) sc_law.nd rfl (by first | exact Or.inl rfl | exact Or.inr rfl)) (mgs_nil)))) (mss_cons (ms_if (mt_cmp (or_ne hr.units) pr_ne (me_cl D_instance_of hr (by decide) rfl (ma_cons (mv 3) (ma_cons (mv 8) (ma_nil)))) (mv 9) (by rfl)) (mss_one (ms_ret (me_bl))) (mss_nil)) (mss_one (ms_if (mt_cmp (or_ne hr.units) pr_ne (me_tup (ma_cons (me_callTy call_list_of pr_list rfl f_list PyProof.Rows.boot_list (ma_cons (me_cl D_reads_of hr (by decide) rfl (ma_cons (mv 3) (ma_cons (mv 8) (ma_nil)))) (ma_nil))) (ma_cons (me_clK (a := 1) (ks := ["n"]) DK_writes_of hr (by decide) rfl (by decide) (fun _ _ _ _ _ _ us ws h1 h2 => match us, ws, h1, h2 with | [_], [_], _, _ => rfl) (ma_cons (mv 3) (ma_nil)) (mk_cons (mv 8) (mk_nil))) (ma_nil)))) (me_ix (or_ix (hu_of hr)) pr_ix (mv 7) (mv 8) (fun _ _ => rfl)) (by rfl)) (mss_one (ms_ret (me_bl))) (mss_nil))))) (mss_cons (ms_for PassesOwn.never rfl (mi_any (me_tup (ma_cons (me_un un_neg pr_neg (me_int)) (ma_cons (me_callB cr_len pr_len rfl f_len PySem.boot_len (ma_cons (mv 5) (ma_nil))) (ma_cons (me_non) (ma_cons (me_bl) (ma_nil))))))) (mg_name (i := 8) sc_law.nd rfl (by first | exact Or.inl rfl | exact Or.inr rfl)) (mss_one (ms_if (mt_cmp (or_ne hr.units) pr_ne (me_heard (k := 10) (ti := 0) DH__law_heard rfl T_law rfl (Room.mono hr (by decide)) (LamX.lamS_by (by kernel_rfl)) rfl (fun _ _ _ _ _ => rfl) (fun A outer s H E f c2 hr2 => me_clX DX_instance_of hr2 (by decide) rfl takes_lam (ma_cons (mv 3) (ma_cons (mv 8) (ma_nil))))) (me_tup (ma_cons (me_str) (ma_nil))) (by rfl)) (mss_one (ms_ret (me_bl))) (mss_nil)))) (mss_cons (ms_if (mt_cmp (or_ne hr.units) pr_ne (me_heard (k := 10) (ti := 0) DH__law_heard rfl T_law rfl (Room.mono hr (by decide)) (LamX.lamS_by (by kernel_rfl)) rfl (fun _ _ _ _ _ => rfl) (fun A outer s H E f c2 hr2 => me_clX DX_reads_of hr2 (by decide) rfl takes_lam (ma_cons (mv 3) (ma_cons (me_callB cr_len pr_len rfl f_len PySem.boot_len (ma_cons (mv 5) (ma_nil))) (ma_nil))))) (me_tup (ma_cons (me_str) (ma_nil))) (by rfl)) (mss_one (ms_ret (me_bl))) (mss_nil)) (mss_one (ms_if (mt_cmp (or_ne hr.units) pr_ne (me_heard (k := 10) (ti := 0) DH__law_heard rfl T_law rfl (Room.mono hr (by decide)) (LamX.lamS_by (by kernel_rfl)) rfl (fun _ _ _ _ _ => rfl) (fun A outer s H E f c2 hr2 => me_clX DX_writes_of hr2 (by decide) rfl takes_lam (ma_cons (mv 3) (ma_cons (me_un un_neg pr_neg (me_int)) (ma_nil))))) (me_tup (ma_cons (me_str) (ma_nil))) (by rfl)) (mss_one (ms_ret (me_bl))) (mss_nil))))))))))))) (mss_one (ms_ret (me_bl))))
end K02
end M

namespace M
namespace K02
open PySem L2
def dd (x : Str) (i : Nat) : He.DefD := ⟨(x, none), x, x, defArgs (top i), defBody (top i), defScope (top i), [], []⟩
def fn : List He.DefD := [dd "is_whole" 17, dd "values_of" 18, dd "point_at" 21, dd "how_many" 22, dd "instance_of" 23, dd "done_at" 24, dd "cell_of" 25, dd "writes_of" 27, dd "ats_of" 19, dd "reads_of" 26, dd "points_of" 20, dd "_law_heard" 29, dd "_law_draw" 30, dd "_law_begun" 31, dd "_law_loop_values" 32, dd "_law_a_sum" 33, dd "_law_an_at" 34, dd "_law_a_value" 35, dd "_law_a_nest" 36, dd "_law_points" 37, dd "_law_cell" 38, dd "_law_read_cells" 39, dd "_law_touched" 40, dd "law" 41]
def fa : List He.Fa := [.glo "is_whole", .glo "values_of", .glo "point_at", .glo "how_many", .glo "instance_of", .glo "done_at", .glo "cell_of", .glo "writes_of", .glo "ats_of", .glo "reads_of", .glo "points_of", .glo "_law_heard", .glo "_law_draw", .glo "_law_begun", .glo "_law_loop_values", .glo "_law_a_sum", .glo "_law_an_at", .glo "_law_a_value", .glo "_law_a_nest", .glo "_law_points", .glo "_law_cell", .glo "_law_read_cells", .glo "_law_touched", .glo "law", .glo "PAIRS", .free "ValueError", .free "bool", .free "dict", .free "enumerate", .free "int", .free "isinstance", .free "len", .free "list", .free "max", .free "min", .free "range", .free "sorted", .free "sum", .free "tuple", .free "zip", .glo "BadLayout", .glo "BadNest", .glo "BadOrder", .glo "BadPlan", .glo "BadRule", .glo "BadSize", .glo "Broken", .glo "LoopError", .glo "NoBack", .glo "NoCell", .glo "NoInstance", .glo "NoText", .glo "NoTiling", .glo "TooMuch", .exc "NoInstance"]
def tf : List He.Defn := [("law", none)]
def ex (K : PySem.W.Frag) : Bool := (He.tupB K "PAIRS" [.str "sum", .str "less", .str "times", .str "most"]) && (isxL K [("NoInstance", false)] (.ref (He.ga K "BadLayout"))) && (isxL K [("NoInstance", false)] (.ref (He.ga K "BadNest"))) && (isxL K [("NoInstance", false)] (.ref (He.ga K "BadOrder"))) && (isxL K [("NoInstance", false)] (.ref (He.ga K "BadPlan"))) && (isxL K [("NoInstance", false)] (.ref (He.ga K "BadRule"))) && (isxL K [("NoInstance", false)] (.ref (He.ga K "BadSize"))) && (isxL K [("NoInstance", false)] (.ref (He.ga K "Broken"))) && (isxL K [("NoInstance", false)] (.ref (He.ga K "NoBack"))) && (isxL K [("NoInstance", false)] (.ref (He.ga K "NoCell"))) && (isxL K [("NoInstance", true)] (.ref (He.ga K "NoInstance"))) && (isxL K [("NoInstance", false)] (.ref (He.ga K "NoText"))) && (isxL K [("NoInstance", false)] (.ref (He.ga K "NoTiling"))) && (isxL K [("NoInstance", false)] (.ref (He.ga K "TooMuch"))) && (isxL K [("NoInstance", true)] (.type "ValueError")) && (okB K ["NoInstance"] "LoopError")
abbrev R : PySem.W.OpenRow := PySem.W.OpenLaw.row PySem.Challenge.rw_bankloops_k02_instances
abbrev hk : PySem.W.Hook := He.hookX 5 fa fn [] tf ex
def ob (s : PySem.W.SharedT) : He.AlX := He.obsX 5 fa fn [] tf ex (HandSHeadRun.getT s)
theorem ob_eq (s : PySem.W.SharedT) : ob s = hk.obs s.abs := He.obsX_eq (HandSHeadRun.getT_eq s)
abbrev loose : List Str := ("LoopError" : Str) :: ("NoInstance" : Str) :: ("NoCell" : Str) :: ("BadOrder" : Str) :: ("BadPlan" : Str) :: ("BadRule" : Str) :: ("TooMuch" : Str) :: ("BadNest" : Str) :: ("Broken" : Str) :: ("BadLayout" : Str) :: ("BadSize" : Str) :: ("NoTiling" : Str) :: ("NoBack" : Str) :: ("NoText" : Str) :: ("PAIRS" : Str) :: ("is_whole" : Str) :: ("values_of" : Str) :: ("ats_of" : Str) :: ("points_of" : Str) :: ("point_at" : Str) :: ("how_many" : Str) :: ("instance_of" : Str) :: ("done_at" : Str) :: ("cell_of" : Str) :: ("reads_of" : Str) :: ("writes_of" : Str) :: ("_law_heard" : Str) :: ("_law_draw" : Str) :: ("_law_begun" : Str) :: ("_law_loop_values" : Str) :: ("_law_a_sum" : Str) :: ("_law_an_at" : Str) :: ("_law_a_value" : Str) :: ("_law_a_nest" : Str) :: ("_law_points" : Str) :: ("_law_cell" : Str) :: ("_law_read_cells" : Str) :: ("_law_touched" : Str) :: []
theorem run (w : World) : HandSHeadRun.RunEq R (PySem.W.view R.prog [41]) hk ob 6000 loose w := by
  intro os
  kernel_rfl
/-- the plain law -/
def Plain : Prop := ∀ (P_law : Addr), ∀ ns : List Int, ns.length ≤ 63 → (∀ z ∈ ns, Builtin.Int.intBits z ≤ 1048576) → ∃ S1, m_law P_law [.rl ns] [.tb P_law "law.<locals>.<lambda>"] = .ok (.bl true) S1
theorem atM {w : World} {K : PySem.W.Frag} {h : Heap} {mg : Str → Option Value} {f0 : Addr} (hp : Plain) (X : K.In h) (G : h.Ns mainGlobals mg) (hfa : mg "law" = some (.ref f0)) (c : He.SaysX fa fn [] tf ex w h K) : LamX.LawAtS PySem.Challenge.rw_bankloops_k02_instances w K CX0 14 63 "script" mg f0 h := by
  have cd := c.t.d
  have F_is_whole := cd.def_ 0 (d := dd "is_whole" 17) rfl
  have g_is_whole := He.glo_ok X G (cd.fact 0 (f := .glo "is_whole") rfl)
  have F_values_of := cd.def_ 1 (d := dd "values_of" 18) rfl
  have g_values_of := He.glo_ok X G (cd.fact 1 (f := .glo "values_of") rfl)
  have F_point_at := cd.def_ 2 (d := dd "point_at" 21) rfl
  have g_point_at := He.glo_ok X G (cd.fact 2 (f := .glo "point_at") rfl)
  have F_how_many := cd.def_ 3 (d := dd "how_many" 22) rfl
  have g_how_many := He.glo_ok X G (cd.fact 3 (f := .glo "how_many") rfl)
  have F_instance_of := cd.def_ 4 (d := dd "instance_of" 23) rfl
  have g_instance_of := He.glo_ok X G (cd.fact 4 (f := .glo "instance_of") rfl)
  have F_done_at := cd.def_ 5 (d := dd "done_at" 24) rfl
  have g_done_at := He.glo_ok X G (cd.fact 5 (f := .glo "done_at") rfl)
  have F_cell_of := cd.def_ 6 (d := dd "cell_of" 25) rfl
  have g_cell_of := He.glo_ok X G (cd.fact 6 (f := .glo "cell_of") rfl)
  have F_writes_of := cd.def_ 7 (d := dd "writes_of" 27) rfl
  have g_writes_of := He.glo_ok X G (cd.fact 7 (f := .glo "writes_of") rfl)
  have F_ats_of := cd.def_ 8 (d := dd "ats_of" 19) rfl
  have g_ats_of := He.glo_ok X G (cd.fact 8 (f := .glo "ats_of") rfl)
  have F_reads_of := cd.def_ 9 (d := dd "reads_of" 26) rfl
  have g_reads_of := He.glo_ok X G (cd.fact 9 (f := .glo "reads_of") rfl)
  have F_points_of := cd.def_ 10 (d := dd "points_of" 20) rfl
  have g_points_of := He.glo_ok X G (cd.fact 10 (f := .glo "points_of") rfl)
  have F__law_heard := cd.def_ 11 (d := dd "_law_heard" 29) rfl
  have g__law_heard := He.glo_ok X G (cd.fact 11 (f := .glo "_law_heard") rfl)
  have F__law_draw := cd.def_ 12 (d := dd "_law_draw" 30) rfl
  have g__law_draw := He.glo_ok X G (cd.fact 12 (f := .glo "_law_draw") rfl)
  have F__law_begun := cd.def_ 13 (d := dd "_law_begun" 31) rfl
  have g__law_begun := He.glo_ok X G (cd.fact 13 (f := .glo "_law_begun") rfl)
  have F__law_loop_values := cd.def_ 14 (d := dd "_law_loop_values" 32) rfl
  have g__law_loop_values := He.glo_ok X G (cd.fact 14 (f := .glo "_law_loop_values") rfl)
  have F__law_a_sum := cd.def_ 15 (d := dd "_law_a_sum" 33) rfl
  have g__law_a_sum := He.glo_ok X G (cd.fact 15 (f := .glo "_law_a_sum") rfl)
  have F__law_an_at := cd.def_ 16 (d := dd "_law_an_at" 34) rfl
  have g__law_an_at := He.glo_ok X G (cd.fact 16 (f := .glo "_law_an_at") rfl)
  have F__law_a_value := cd.def_ 17 (d := dd "_law_a_value" 35) rfl
  have g__law_a_value := He.glo_ok X G (cd.fact 17 (f := .glo "_law_a_value") rfl)
  have F__law_a_nest := cd.def_ 18 (d := dd "_law_a_nest" 36) rfl
  have g__law_a_nest := He.glo_ok X G (cd.fact 18 (f := .glo "_law_a_nest") rfl)
  have F__law_points := cd.def_ 19 (d := dd "_law_points" 37) rfl
  have g__law_points := He.glo_ok X G (cd.fact 19 (f := .glo "_law_points") rfl)
  have F__law_cell := cd.def_ 20 (d := dd "_law_cell" 38) rfl
  have g__law_cell := He.glo_ok X G (cd.fact 20 (f := .glo "_law_cell") rfl)
  have F__law_read_cells := cd.def_ 21 (d := dd "_law_read_cells" 39) rfl
  have g__law_read_cells := He.glo_ok X G (cd.fact 21 (f := .glo "_law_read_cells") rfl)
  have F__law_touched := cd.def_ 22 (d := dd "_law_touched" 40) rfl
  have g__law_touched := He.glo_ok X G (cd.fact 22 (f := .glo "_law_touched") rfl)
  have F_law := cd.def_ 23 (d := dd "law" 41) rfl
  have g_law := He.glo_ok X G (cd.fact 23 (f := .glo "law") rfl)
  have f_ValueError := He.free_ok X G (cd.fact 25 (f := .free "ValueError") rfl)
  have f_bool := He.free_ok X G (cd.fact 26 (f := .free "bool") rfl)
  have f_dict := He.free_ok X G (cd.fact 27 (f := .free "dict") rfl)
  have f_enumerate := He.free_ok X G (cd.fact 28 (f := .free "enumerate") rfl)
  have f_int := He.free_ok X G (cd.fact 29 (f := .free "int") rfl)
  have f_isinstance := He.free_ok X G (cd.fact 30 (f := .free "isinstance") rfl)
  have f_len := He.free_ok X G (cd.fact 31 (f := .free "len") rfl)
  have f_list := He.free_ok X G (cd.fact 32 (f := .free "list") rfl)
  have f_max := He.free_ok X G (cd.fact 33 (f := .free "max") rfl)
  have f_min := He.free_ok X G (cd.fact 34 (f := .free "min") rfl)
  have f_range := He.free_ok X G (cd.fact 35 (f := .free "range") rfl)
  have f_sorted := He.free_ok X G (cd.fact 36 (f := .free "sorted") rfl)
  have f_sum := He.free_ok X G (cd.fact 37 (f := .free "sum") rfl)
  have f_tuple := He.free_ok X G (cd.fact 38 (f := .free "tuple") rfl)
  have f_zip := He.free_ok X G (cd.fact 39 (f := .free "zip") rfl)
  have g_BadLayout := He.glo_ok X G (cd.fact 40 (f := .glo "BadLayout") rfl)
  have g_BadNest := He.glo_ok X G (cd.fact 41 (f := .glo "BadNest") rfl)
  have g_BadOrder := He.glo_ok X G (cd.fact 42 (f := .glo "BadOrder") rfl)
  have g_BadPlan := He.glo_ok X G (cd.fact 43 (f := .glo "BadPlan") rfl)
  have g_BadRule := He.glo_ok X G (cd.fact 44 (f := .glo "BadRule") rfl)
  have g_BadSize := He.glo_ok X G (cd.fact 45 (f := .glo "BadSize") rfl)
  have g_Broken := He.glo_ok X G (cd.fact 46 (f := .glo "Broken") rfl)
  have g_LoopError := He.glo_ok X G (cd.fact 47 (f := .glo "LoopError") rfl)
  have g_NoBack := He.glo_ok X G (cd.fact 48 (f := .glo "NoBack") rfl)
  have g_NoCell := He.glo_ok X G (cd.fact 49 (f := .glo "NoCell") rfl)
  have g_NoInstance := He.glo_ok X G (cd.fact 50 (f := .glo "NoInstance") rfl)
  have g_NoText := He.glo_ok X G (cd.fact 51 (f := .glo "NoText") rfl)
  have g_NoTiling := He.glo_ok X G (cd.fact 52 (f := .glo "NoTiling") rfl)
  have g_TooMuch := He.glo_ok X G (cd.fact 53 (f := .glo "TooMuch") rfl)
  have e_NoInstance := He.exc_ok (cd.fact 54 (f := .exc "NoInstance") rfl)
  have x_BadLayout := (He.ba (He.ba (He.ba (He.ba (He.ba (He.ba (He.ba (He.ba (He.ba (He.ba (He.ba (He.ba (He.ba (He.ba (He.ba c.more).1).1).1).1).1).1).1).1).1).1).1).1).1).1).2
  have x_BadNest := (He.ba (He.ba (He.ba (He.ba (He.ba (He.ba (He.ba (He.ba (He.ba (He.ba (He.ba (He.ba (He.ba (He.ba c.more).1).1).1).1).1).1).1).1).1).1).1).1).1).2
  have x_BadOrder := (He.ba (He.ba (He.ba (He.ba (He.ba (He.ba (He.ba (He.ba (He.ba (He.ba (He.ba (He.ba (He.ba c.more).1).1).1).1).1).1).1).1).1).1).1).1).2
  have x_BadPlan := (He.ba (He.ba (He.ba (He.ba (He.ba (He.ba (He.ba (He.ba (He.ba (He.ba (He.ba (He.ba c.more).1).1).1).1).1).1).1).1).1).1).1).2
  have x_BadRule := (He.ba (He.ba (He.ba (He.ba (He.ba (He.ba (He.ba (He.ba (He.ba (He.ba (He.ba c.more).1).1).1).1).1).1).1).1).1).1).2
  have x_BadSize := (He.ba (He.ba (He.ba (He.ba (He.ba (He.ba (He.ba (He.ba (He.ba (He.ba c.more).1).1).1).1).1).1).1).1).1).2
  have x_Broken := (He.ba (He.ba (He.ba (He.ba (He.ba (He.ba (He.ba (He.ba (He.ba c.more).1).1).1).1).1).1).1).1).2
  have x_NoBack := (He.ba (He.ba (He.ba (He.ba (He.ba (He.ba (He.ba (He.ba c.more).1).1).1).1).1).1).1).2
  have x_NoCell := (He.ba (He.ba (He.ba (He.ba (He.ba (He.ba (He.ba c.more).1).1).1).1).1).1).2
  have x_NoInstance := (He.ba (He.ba (He.ba (He.ba (He.ba (He.ba c.more).1).1).1).1).1).2
  have x_NoText := (He.ba (He.ba (He.ba (He.ba (He.ba c.more).1).1).1).1).2
  have x_NoTiling := (He.ba (He.ba (He.ba (He.ba c.more).1).1).1).2
  have x_TooMuch := (He.ba (He.ba (He.ba c.more).1).1).2
  have x_ValueError := (He.ba (He.ba c.more).1).2
  have x_ok := (He.ba c.more).2
  have hg_PAIRS : ∃ a, mg "PAIRS" = some (.ref a) ∧ ∀ p H, RD ⟨K, (PySem.Challenge.rw_bankloops_k02_instances).prog, w⟩ p H c_PAIRS (.ref a) := ⟨_, He.glo_ok X G (cd.fact 24 (f := .glo "PAIRS") rfl), fun p H => ⟨_, _, rfl, He.tupB_ok ((He.ba (He.ba (He.ba (He.ba (He.ba (He.ba (He.ba (He.ba (He.ba (He.ba (He.ba (He.ba (He.ba (He.ba (He.ba c.more).1).1).1).1).1).1).1).1).1).1).1).1).1).1).1) H, _, _, rfl, rfl, _, _, rfl, rfl, _, _, rfl, rfl, _, _, rfl, rfl, rfl⟩⟩
  have e := hfa.symm.trans g_law
  cases e
  obtain ⟨fd, FL⟩ := F_law
  have b := FunD.bindsA (ps := ["script"]) FL fun _ _ _ _ _ _ us hl => match us, hl with | [_], _ => rfl
  refine lawAtM (mf := (m_law (He.cT K ("law", none)).2)) (tf.map (He.cT K)) ["law.<locals>.<lambda>"] rfl (by simp [tf]) (fun p hp => ?_) (fun p hp => ?_) (fun p hp => ?_) (fun s v => b s [v] rfl) (fun base b1 b2 b3 => ?_) (fun ns h1 h2 => hp _ ns h1 h2)
  · obtain ⟨q, hq, rfl⟩ := List.mem_map.mp hp
    exact c.empty q hq
  · obtain ⟨q, hq, rfl⟩ := List.mem_map.mp hp
    exact c.out q hq
  · obtain ⟨q, hq, rfl⟩ := List.mem_map.mp hp
    exact PySem.W.codeHd_of_K X (c.hd q hq)
  · have T_law := b3 (He.cT K ("law", none)) (List.mem_map.mpr ⟨("law", none), by simp [tf], rfl⟩)
    have D_is_whole : DefAt (PySem.Challenge.rw_bankloops_k02_instances).prog w K mg base 1 "is_whole" 3 m_is_whole := ok_is_whole F_is_whole g_is_whole f_isinstance f_int f_bool
    have D_values_of : DefAt (PySem.Challenge.rw_bankloops_k02_instances).prog w K mg base 1 "values_of" 1 m_values_of := ok_values_of F_values_of g_values_of f_list f_range
    have D_point_at : DefAt (PySem.Challenge.rw_bankloops_k02_instances).prog w K mg base 2 "point_at" 2 m_point_at := ok_point_at F_point_at g_point_at D_values_of f_len f_tuple
    have D_how_many : DefAt (PySem.Challenge.rw_bankloops_k02_instances).prog w K mg base 2 "how_many" 1 m_how_many := ok_how_many F_how_many g_how_many f_len D_values_of
    have DXK_instance_of : DefXK (PySem.Challenge.rw_bankloops_k02_instances).prog w K mg base 3 "instance_of" s_instance_of ["nest", "n"] m_instance_of := ok_instance_of F_instance_of g_instance_of D_is_whole D_how_many g_NoInstance e_NoInstance f_len D_point_at
    have DX_instance_of : DefX (PySem.Challenge.rw_bankloops_k02_instances).prog w K mg base 3 "instance_of" 2 m_instance_of := DXK_instance_of.x
    have DK_instance_of : DefK (PySem.Challenge.rw_bankloops_k02_instances).prog w K mg base 3 "instance_of" s_instance_of ["nest", "n"] m_instance_of := DXK_instance_of.k
    have D_instance_of : DefAt (PySem.Challenge.rw_bankloops_k02_instances).prog w K mg base 3 "instance_of" 2 m_instance_of := DK_instance_of.at
    have DXK_done_at : DefXK (PySem.Challenge.rw_bankloops_k02_instances).prog w K mg base 4 "done_at" s_done_at ["nest", "n"] m_done_at := ok_done_at F_done_at g_done_at DX_instance_of
    have DX_done_at : DefX (PySem.Challenge.rw_bankloops_k02_instances).prog w K mg base 4 "done_at" 2 m_done_at := DXK_done_at.x
    have DK_done_at : DefK (PySem.Challenge.rw_bankloops_k02_instances).prog w K mg base 4 "done_at" s_done_at ["nest", "n"] m_done_at := DXK_done_at.k
    have D_done_at : DefAt (PySem.Challenge.rw_bankloops_k02_instances).prog w K mg base 4 "done_at" 2 m_done_at := DK_done_at.at
    have D_cell_of : DefAt (PySem.Challenge.rw_bankloops_k02_instances).prog w K mg base 1 "cell_of" 4 m_cell_of := ok_cell_of F_cell_of g_cell_of f_zip f_sum f_tuple
    have DXK_writes_of : DefXK (PySem.Challenge.rw_bankloops_k02_instances).prog w K mg base 5 "writes_of" s_writes_of ["nest", "n"] m_writes_of := ok_writes_of F_writes_of g_writes_of DX_done_at D_cell_of
    have DX_writes_of : DefX (PySem.Challenge.rw_bankloops_k02_instances).prog w K mg base 5 "writes_of" 2 m_writes_of := DXK_writes_of.x
    have DK_writes_of : DefK (PySem.Challenge.rw_bankloops_k02_instances).prog w K mg base 5 "writes_of" s_writes_of ["nest", "n"] m_writes_of := DXK_writes_of.k
    have D_writes_of : DefAt (PySem.Challenge.rw_bankloops_k02_instances).prog w K mg base 5 "writes_of" 2 m_writes_of := DK_writes_of.at
    have D_ats_of : DefAt (PySem.Challenge.rw_bankloops_k02_instances).prog w K mg base 9 "ats_of" 1 (m_ats_of 8) := ok_ats_of F_ats_of g_ats_of hg_PAIRS 8
    have DXK_reads_of : DefXK (PySem.Challenge.rw_bankloops_k02_instances).prog w K mg base 10 "reads_of" s_reads_of ["nest", "n"] m_reads_of := ok_reads_of F_reads_of g_reads_of DX_done_at D_ats_of D_cell_of f_tuple
    have DX_reads_of : DefX (PySem.Challenge.rw_bankloops_k02_instances).prog w K mg base 10 "reads_of" 2 m_reads_of := DXK_reads_of.x
    have DK_reads_of : DefK (PySem.Challenge.rw_bankloops_k02_instances).prog w K mg base 10 "reads_of" s_reads_of ["nest", "n"] m_reads_of := DXK_reads_of.k
    have D_reads_of : DefAt (PySem.Challenge.rw_bankloops_k02_instances).prog w K mg base 10 "reads_of" 2 m_reads_of := DK_reads_of.at
    have D_points_of : DefAt (PySem.Challenge.rw_bankloops_k02_instances).prog w K mg base 2 "points_of" 1 m_points_of := ok_points_of F_points_of g_points_of D_values_of f_tuple
    have DH__law_heard : DefH (PySem.Challenge.rw_bankloops_k02_instances).prog w K mg base 11 "_law_heard" 7 (okL ["NoInstance"]) h__law_heard := ok__law_heard F__law_heard g__law_heard g_LoopError x_ok f_isinstance g_NoInstance x_NoInstance g_NoCell x_NoCell g_BadOrder x_BadOrder g_BadPlan x_BadPlan g_BadRule x_BadRule g_BadNest x_BadNest g_BadLayout x_BadLayout g_BadSize x_BadSize g_NoTiling x_NoTiling g_NoBack x_NoBack g_NoText x_NoText g_TooMuch x_TooMuch g_Broken x_Broken f_len f_ValueError x_ValueError
    have D__law_draw : DefAt (PySem.Challenge.rw_bankloops_k02_instances).prog w K mg base 1 "_law_draw" 3 m__law_draw := ok__law_draw F__law_draw g__law_draw f_len
    have D__law_begun : DefAt (PySem.Challenge.rw_bankloops_k02_instances).prog w K mg base 1 "_law_begun" 0 m__law_begun := ok__law_begun F__law_begun g__law_begun 
    have D__law_loop_values : DefAt (PySem.Challenge.rw_bankloops_k02_instances).prog w K mg base 1 "_law_loop_values" 1 m__law_loop_values := ok__law_loop_values F__law_loop_values g__law_loop_values 
    have D__law_a_sum : DefAt (PySem.Challenge.rw_bankloops_k02_instances).prog w K mg base 2 "_law_a_sum" 4 m__law_a_sum := ok__law_a_sum F__law_a_sum g__law_a_sum f_range D__law_draw f_len D__law_loop_values f_max f_min f_tuple f_sorted
    have D__law_an_at : DefAt (PySem.Challenge.rw_bankloops_k02_instances).prog w K mg base 3 "_law_an_at" 4 m__law_an_at := ok__law_an_at F__law_an_at g__law_an_at D__law_draw f_range f_len D__law_a_sum f_max f_tuple
    have D__law_a_value : DefAt (PySem.Challenge.rw_bankloops_k02_instances).prog w K mg base 12 "_law_a_value" 5 (m__law_a_value 8) := ok__law_a_value F__law_a_value g__law_a_value D__law_draw f_len D__law_an_at 8
    have D__law_a_nest : DefAt (PySem.Challenge.rw_bankloops_k02_instances).prog w K mg base 13 "_law_a_nest" 2 m__law_a_nest := ok__law_a_nest F__law_a_nest g__law_a_nest D__law_draw f_range D__law_a_value D__law_an_at f_tuple
    have D__law_points : DefAt (PySem.Challenge.rw_bankloops_k02_instances).prog w K mg base 2 "_law_points" 1 m__law_points := ok__law_points F__law_points g__law_points D__law_loop_values f_dict f_list
    have D__law_cell : DefAt (PySem.Challenge.rw_bankloops_k02_instances).prog w K mg base 1 "_law_cell" 3 m__law_cell := ok__law_cell F__law_cell g__law_cell f_sum f_tuple
    have D__law_read_cells : DefAt (PySem.Challenge.rw_bankloops_k02_instances).prog w K mg base 10 "_law_read_cells" 2 (m__law_read_cells 8) := ok__law_read_cells F__law_read_cells g__law_read_cells D__law_cell 8
    have D__law_touched : DefAt (PySem.Challenge.rw_bankloops_k02_instances).prog w K mg base 11 "_law_touched" 1 m__law_touched := ok__law_touched F__law_touched g__law_touched D__law_points D__law_cell D__law_read_cells
    exact ok_law FL D__law_begun f_range D__law_a_nest D__law_points f_tuple D_points_of f_len D__law_touched f_enumerate D_instance_of DK_writes_of f_list D_reads_of DH__law_heard T_law DX_instance_of DX_reads_of DX_writes_of
end K02
end M

namespace M
namespace K02
open PySem L2
theorem and_ok {a b : En → Sto → Rs Bool} {E : En} {S S1 : Sto} {r : Rs Bool} (h1 : a E S = .ok true S1) (h2 : b E S1 = r) : tAndM a b E S = r := by
  unfold tAndM; rw [h1, bind_ok, if_pos rfl]; exact h2
theorem and_no {a b : En → Sto → Rs Bool} {E : En} {S S1 : Sto} (h1 : a E S = .ok false S1) : tAndM a b E S = .ok false S1 := by
  unfold tAndM; rw [h1, bind_ok, if_neg (by simp)]
theorem nk_ok {a b n : Nat} {f : List D → Sto → Rs D} {t tk : En → Sto → Rs (List D)} {E : En} {S S1 S2 S3 : Sto} {ds es : List D} {d : D} (h1 : t E S = .ok ds S1) (h2 : tk E S1 = .ok es S2) (hl : ds.length = a ∧ es.length = b) (hn : (ds ++ es).length = n) (h : f (ds ++ es) S2 = .ok d S3) : mNK a b (mCl n f) t tk E S = .ok d S3 := by
  unfold mNK mCl
  rw [h1, bind_ok, h2, bind_ok, if_pos hl, if_pos hn, h]; rfl
/-! ### what is heard of a refusal -/
theorem at_k {S T : Sto} {k : Nat} : (S ++ T)[S.length + k]? = T[k]? := by
  rw [List.getElem?_append_right (Nat.le_add_right ..), Nat.add_sub_cancel_left]
theorem set_k {S T : Sto} {k : Nat} {o : O} : (S ++ T).set (S.length + k) o = S ++ T.set k o := by
  rw [List.set_append_right _ _ (Nat.le_add_right ..), Nat.add_sub_cancel_left]
section
variable {S T : Sto} {E : En} {c : Str} {i : Nat}
theorem isx_ok {sub : Str → Option Bool} {b : Bool} {m : En → Sto → Rs D} (hm : m E (S ++ T) = .ok (.ref (S.length + i)) (S ++ T)) (h : T[i]? = some (.ex c [])) (hb : sub c = some b) : m1 (fIsX sub) m E (S ++ T) = .ok (.bl b) (S ++ T) := by
  unfold m1
  rw [hm, bind_ok]
  unfold fIsX
  simp only [at_k, h, hb]
theorem disp2_ok {x y : Str} {m1 m2 : En → Sto → Rs D} {a b : D} {n : Nat} (h1 : m1 E (S ++ T) = .ok a (S ++ T)) (h2 : m2 E (S ++ T) = .ok b (S ++ T)) (hn : T.length = n) : mDisp [(mC (.str x), m1), (mC (.str y), m2)] E (S ++ T) = .ok (.ref (S.length + n)) (S ++ (T ++ [.dk (mergeD [] [(.inr x, a), (.inr y, b)])])) := by
  have e : dPairs [(mC (.str x), m1), (mC (.str y), m2)] E (S ++ T) = .ok [(.inr x, a), (.inr y, b)] (S ++ T) := by
    show (m1 E (S ++ T)).bind _ = _
    rw [h1, bind_ok]
    show ((m2 E (S ++ T)).bind _).bind _ = _
    rw [h2, bind_ok]
    rfl
  unfold mDisp
  rw [e, bind_ok, if_pos (by simp), List.append_assoc, List.length_append, hn]
theorem upd_ok {mo : En → Sto → Rs D} {t : En → Sto → Rs D} {j : Nat} {kvs more : List (Key × D)} {U : Sto} (h1 : mo E (S ++ T) = .ok (.ref (S.length + i)) (S ++ T)) (h0 : T[i]? = some (.dk kvs)) (h2 : t E (S ++ T) = .ok (.ref (S.length + j)) (S ++ U)) (h3 : U[i]? = some (.dk kvs)) (h4 : U[j]? = some (.dk more)) (hij : i ≠ j) (hl : kvs.length + more.length ≤ 1000) : mMethD fUpd mo (aCons t aNil) E (S ++ T) = .ok .non (S ++ U.set i (.dk (mergeD kvs more))) := by
  have hz : (1000 : Nat) ≤ sizeLine := by decide
  unfold mMethD
  rw [h1, bind_ok]
  have e : isDo (S ++ T) (.ref (S.length + i)) = true := by
    unfold isDo
    simp only [at_k, h0]
  rw [if_pos e, cons_ok h2 rfl, bind_ok]
  unfold fUpd
  simp only [at_k, h3, h4]
  rw [if_neg (by omega), if_pos (by omega), set_k]
theorem body_tst {vs : List Nat} {g : D → En → Sto → Rs En} {t : En → Sto → Rs Bool} {m : En → Sto → Rs D} {E E1 : En} {d y : D} {b : Bool} {S : Sto} (h1 : g d (wipeE vs E) S = .ok E1 S) (h2 : t E1 S = .ok b S) (h3 : m E1 S = .ok y S) : bodyL vs g t m E d S = .ok (if b then some y else none) S := by
  unfold bodyL
  rw [h1, bind_ok, h2, bind_ok]
  cases b
  · rfl
  · rw [if_pos rfl, h3]; rfl
theorem expr_ok {m : En → Sto → Rs D} {E : En} {S S1 : Sto} {d : D} (h : m E S = .ok d S1) : sExpr m E S = .ok (.nx E) S1 := by
  unfold sExpr; rw [h]; rfl
theorem tV_bl {m : En → Sto → Rs D} {E : En} {S S1 : Sto} {b : Bool} (h : m E S = .ok (.bl b) S1) : tV m E S = .ok b S1 := by
  unfold tV; rw [h]; rfl
/-- the words of a table of truths that are true -/
def okKv : Key × D → Bool
  | (.inr _, .bl _) => true
  | _ => false
theorem okKv_get {kv : Key × D} (h : okKv kv = true) : ∃ x b, kv = (.inr x, .bl b) := by
  match kv, h with
  | (.inr x, .bl b), _ => exact ⟨x, b, rfl⟩
theorem words_ok {kvs : List (Key × D)} (hk : kvs.all okKv = true) (hnd : (kvs.map (·.1)).Nodup) (h : T[i]? = some (.dk kvs)) (hl : kvs.length ≤ 1000) (hE : ∀ d U, mV 4 ((wipeE [6] E).set 6 (some d)) U = .ok (.ref (S.length + i)) U) (hE2 : ∀ U, mV 4 E U = .ok (.ref (S.length + i)) U) (hE3 : ∀ d U, mV 6 ((wipeE [6] E).set 6 (some d)) U = .ok d U) :
    mComp (iA (mV 4)) [6] (gN 6) (tV (m2 opIx (mV 4) (mV 6))) (mV 6) E (S ++ T) = .ok ((kvs.map fun kv => kD kv.1).filterMap fun d => match d with | .str x => (match getK kvs (.inr x) with | some (.bl true) => some (.str x) | _ => none) | _ => none) (S ++ T) := by
  have hz : (1000 : Nat) ≤ sizeLine := by decide
  have hn : i < T.length := (List.getElem?_eq_some_iff.mp h).1
  refine mComp_lock (n := S.length + i) (kvs := kvs) _ ?_ (by rw [at_k]; exact h) ?_ (by simp; omega)
  · show (mV 4 E (S ++ T)).bind aiOf = _
    rw [hE2, bind_ok]
    unfold aiOf
    simp only [at_k, h]
  · intro d hd
    obtain ⟨kv, hkv, rfl⟩ := List.mem_map.mp hd
    obtain ⟨x, b, rfl⟩ := okKv_get (List.all_eq_true.mp hk kv hkv)
    have hg : getK kvs (.inr x) = some (.bl b) := by
      unfold getK
      have : kvs.find? (fun kv => decide (kv.1 = .inr x)) = some (.inr x, .bl b) := by
        clear hd h hl hk hE hE2 hE3
        induction kvs with
        | nil => cases hkv
        | cons q r ih =>
          rw [List.map_cons, List.nodup_cons] at hnd
          rcases List.mem_cons.mp hkv with e | e
          · rw [← e]; simp
          · have : ¬ q.1 = .inr x := fun z => hnd.1 (by rw [z]; exact List.mem_map.mpr ⟨_, e, rfl⟩)
            rw [List.find?_cons_of_neg (by simpa using this)]
            exact ih hnd.2 e
      rw [this]; rfl
    have h2 : m2 opIx (mV 4) (mV 6) ((wipeE [6] E).set 6 (some (.str x))) ((S ++ T).set (S.length + i) (.fd kvs)) = .ok (.bl b) ((S ++ T).set (S.length + i) (.fd kvs)) :=
      m2_ok (hE _ _) (hE3 _ _) (ix_fd (by rw [set_k, at_k]; simp [hn]) rfl hg)
    show bodyL [6] (gN 6) (tV (m2 opIx (mV 4) (mV 6))) (mV 6) E (.str x) _ = _
    rw [body_tst rfl (tV_bl h2) (hE3 _ _)]
    simp only [kD, hg]
    cases b <;> rfl
end
/-! ### nests as data -/
structure NSum where
  n : Int
  fs : List (Str × Int)
def facD (f : Str × Int) : D := .tup [.str f.1, .int f.2]
def sumD (s : NSum) : D := .tup [.int s.n, .tup (s.fs.map facD)]
def plcD (ps : List NSum) : D := .tup (ps.map sumD)
inductive Val where
  | num (i : Int) | lop (x : Str) | at (t : Str) (ps : List NSum) | two (w : Str) (a b : Val)
def valD : Val → D
  | .num i => .tup [.str "num", .int i]
  | .lop x => .tup [.str "loop", .str x]
  | .at t ps => .tup [.str "at", .str t, plcD ps]
  | .two w a b => .tup [.str w, valD a, valD b]
structure NLoop where
  x : Str
  lo : Int
  hi : Int
  st : Int
def lopD (l : NLoop) : D := .tup [.str l.x, .int l.lo, .int l.hi, .int l.st]
structure Stm where
  w : Str
  t : Str
  ps : List NSum
  v : Val
def stmD (s : Stm) : D := .tup [.str s.w, .str s.t, plcD s.ps, valD s.v]
def tabD (t : Str × List Int) : D := .tup [.str t.1, .tup (t.2.map .int)]
structure Nest where
  tabs : List (Str × List Int)
  loops : List NLoop
  body : List Stm
def lopsD (ls : List NLoop) : D := .tup (ls.map lopD)
def bodD (b : List Stm) : D := .tup (b.map stmD)
def nestD (N : Nest) : D := .tup [.ptp (N.tabs.map tabD), lopsD N.loops, bodD N.body]
/-- the values of a loop -/
def lvals (l : NLoop) : List Int := rgI l.lo l.hi l.st
/-- a loop of some values -/
structure GL (l : NLoop) : Prop where
  a : -200 ≤ l.lo
  b : l.lo < l.hi
  c : l.hi ≤ 200
  d : 1 ≤ l.st
  e : l.st ≤ 9
theorem rgN_le {i j c : Int} (hc : 1 ≤ c) : (rgN i j c : Int) ≤ max 0 (j - i) := by
  unfold rgN
  split
  · have h0 : 0 ≤ (j - i - 1) / c := Int.ediv_nonneg (by omega) (by omega)
    have h1 : (j - i - 1) / c ≤ j - i - 1 := Int.ediv_le_self _ (by omega)
    omega
  · omega
theorem lvals_len {l : NLoop} : (lvals l).length = rgN l.lo l.hi l.st := by simp [lvals, rgI]
theorem GL.pos {l : NLoop} (g : GL l) : 0 < (lvals l).length := by
  rw [lvals_len]
  unfold rgN
  rw [if_pos g.b]
  have h0 : 0 ≤ (l.hi - l.lo - 1) / l.st := Int.ediv_nonneg (by have := g.b; omega) (by have := g.d; omega)
  omega
theorem GL.few {l : NLoop} (g : GL l) : (lvals l).length ≤ 400 := by
  rw [lvals_len]
  have := rgN_le (i := l.lo) (j := l.hi) g.d
  have := g.a
  have := g.b
  have := g.c
  omega
theorem GL.rg {l : NLoop} (g : GL l) : rgB l.lo l.hi l.st = true := by
  have := g.few
  rw [lvals_len] at this
  have h1 := g.a
  have h2 := g.b
  have h3 := g.c
  have h4 := g.d
  have h5 := g.e
  unfold rgB
  simp only [Bool.and_eq_true, decide_eq_true_eq]
  refine ⟨⟨⟨⟨⟨⟨?_, ?_⟩, ?_⟩, ?_⟩, ?_⟩, ?_⟩, ?_⟩ <;> omega
theorem GL.mem {l : NLoop} (g : GL l) {v : Int} (h : v ∈ lvals l) : l.lo ≤ v ∧ v < l.hi := by
  unfold lvals rgI at h
  obtain ⟨k, hk, rfl⟩ := List.mem_map.mp h
  have hk := List.mem_range.mp hk
  unfold rgN at hk
  rw [if_pos g.b] at hk
  have h4 := g.d
  have hb := g.b
  have h0 : 0 ≤ (l.hi - l.lo - 1) / l.st := Int.ediv_nonneg (by omega) (by omega)
  have hk2 : (k : Int) ≤ (l.hi - l.lo - 1) / l.st := by omega
  have h1 : (k : Int) * l.st ≤ l.hi - l.lo - 1 := Int.le_trans (Int.mul_le_mul_of_nonneg_right hk2 (by omega)) (Int.ediv_mul_le _ (by omega))
  have h2 : 0 ≤ (k : Int) * l.st := Int.mul_nonneg (by omega) (by omega)
  omega
/-! ### is_whole, values_of, how_many -/
section
variable {S : Sto} {i a b : Int} {N : Nest} {l : NLoop}
theorem is_whole_ok : m_is_whole [.int i, .int a, .int b] S = .ok (.bl (decide (a ≤ i) && decide (i ≤ b))) S := by
  refine def_rt (d := .bl (decide (a ≤ i) && decide (i ≤ b))) (S1 := S) ?_ (gc_same rfl)
  refine seq_ok (if_no rfl rfl) (ret_ok ?_)
  have e1 : vOr (m2 (opIsN false) (mV 1) (mC .non)) (m2 opGe (mV 0) (mV 1)) (startE 3 [.int i, .int a, .int b]) S = .ok (.bl (decide (a ≤ i))) S := rfl
  have e2 : vOr (m2 (opIsN false) (mV 2) (mC .non)) (m2 opLe (mV 0) (mV 2)) (startE 3 [.int i, .int a, .int b]) S = .ok (.bl (decide (i ≤ b))) S := rfl
  unfold vAnd
  rw [e1, bind_ok, truth_bl, bind_ok, e2]
  cases decide (a ≤ i) <;> rfl
theorem is_whole_non {x y : D} : m_is_whole [.non, x, y] S = .ok (.bl false) S :=
  def_rt (d := .bl false) (S1 := S) (seq_rt (if_yes rfl (ret_ok rfl))) (gc_same rfl)
theorem is_whole_bl {c : Bool} {x y : D} : m_is_whole [.bl c, x, y] S = .ok (.bl false) S :=
  def_rt (d := .bl false) (S1 := S) (seq_rt (if_yes rfl (ret_ok rfl))) (gc_same rfl)
theorem values_of_ok (g : GL l) : m_values_of [lopD l] S = .ok (.ref S.length) (S ++ [.lst ((lvals l).map .int)]) := by
  refine def_rt (d := .ref S.length) (S1 := S ++ [.lst ((lvals l).map .int)]) (ret_ok ?_) ?_
  · have e : fLstRg [.int l.lo, .int l.hi, .int l.st] S = .ok (.ref S.length) (S ++ [.lst ((lvals l).map .int)]) := by
      unfold fLstRg rgOf
      simp only [g.rg, if_true]
      rfl
    exact mN_ok (cons_ok rfl (cons_ok rfl (cons_ok rfl rfl))) e
  · unfold gc
    have : lowD S.length (.ref S.length) = false := by simp [lowD]
    rw [this]; rfl
end
end K02
end M

namespace M
namespace K02
open PySem L2
/-! ### how many -/
theorem mul_ok {S : Sto} {i j : Int} (h : -1000000 ≤ j ∧ j ≤ 1000000) : opMul (.int i) (.int j) S = .ok (.int (i * j)) S := by
  have h1 : (-(2 ^ 64) < i ∧ i < 2 ^ 64) ∨ (-(2 ^ 64) < j ∧ j < 2 ^ 64) := by
    right
    constructor <;> omega
  have e := mul_int (S := S) (i := i) (j := j)
  rw [if_pos h1] at e
  exact e
theorem Ok.ret {α : Type} {a : α} {S : Sto} {Q : α → Sto → Prop} (q : Q a S) : Ok (.ok a S) Q := q
theorem map_get {α : Type} {f : α → D} {xs : List α} {i : Nat} {d : D} (h : (xs.map f)[i]? = some d) : ∃ x, xs[i]? = some x ∧ d = f x := by
  rw [List.getElem?_map] at h
  cases hq : xs[i]? with
  | none => rw [hq] at h; cases h
  | some x => rw [hq] at h; exact ⟨x, rfl, (Option.some.inj h).symm⟩
def cntL : List NLoop → Nat
  | [] => 1
  | l :: ls => (lvals l).length * cntL ls
theorem cntL_app : ∀ (a b : List NLoop), cntL (a ++ b) = cntL a * cntL b
  | [], b => by simp [cntL]
  | l :: a, b => by rw [List.cons_append, cntL, cntL, cntL_app a b, Nat.mul_assoc]
theorem cntL_pos : ∀ {ls : List NLoop}, (∀ l ∈ ls, GL l) → 0 < cntL ls
  | [], _ => Nat.one_pos
  | l :: ls, h => Nat.mul_pos (h l (List.mem_cons_self ..)).pos (cntL_pos fun x hx => h x (List.mem_cons_of_mem _ hx))
theorem take_succ_get {α : Type} {xs : List α} {i : Nat} {x : α} (h : xs[i]? = some x) : xs.take (i + 1) = xs.take i ++ [x] := by
  obtain ⟨h1, rfl⟩ := List.getElem?_eq_some_iff.mp h
  rw [List.take_succ_eq_append_getElem h1]
def cnt (N : Nest) : Nat := N.body.length * cntL N.loops
theorem len_new {S T : Sto} {ds : List D} : fLen [.ref (S ++ T).length] (S ++ T ++ [.lst ds]) = .ok (.int ds.length) (S ++ T ++ [.lst ds]) := len_lst (get_end ..)
section
variable {S : Sto} {N : Nest}
theorem how_many_ok (hlow : Low S) (hg : ∀ l ∈ N.loops, GL l) : m_how_many [nestD N] S = .ok (.int (cnt N : Nat)) S := by
  suffices h : Ok (m_how_many [nestD N] S) (fun d S' => d = .int (cnt N : Nat) ∧ S' = S) by
    obtain ⟨d, S', e, rfl, rfl⟩ := h.get
    exact e
  unfold m_how_many b_how_many
  refine ok_mdef ?_
  have e0 : mN fLen (aCons (m2 opIx (mV 0) (mC (.int 2))) aNil) (startE 3 [nestD N]) S = .ok (.int (N.body.length : Nat)) S := by
    show Rs.ok (D.int ((N.body.map stmD).length : Nat)) S = _
    rw [List.length_map]
  refine ws_seq (ws_asg (Ok.of e0 (Ok.of rfl ?_)))
  refine ws_seq (ws_for (items := N.loops.map lopD) (gd := fun _ => True) (fun i E S' => ∃ T lp, E = [some (nestD N), some (.int (N.body.length * cntL (N.loops.take i) : Nat)), lp] ∧ S' = S ++ T) rfl ⟨[], none, ?_, by simp⟩ (fun _ _ _ _ => trivial) ?_ ?_)
  · simp only [List.take_zero, cntL, Nat.mul_one]
    rfl
  · rintro i d E S' hi ⟨T, lp, rfl, rfl⟩
    obtain ⟨l, hl, rfl⟩ := map_get hi
    have gl := hg l (List.mem_of_getElem? hl)
    have e1 := values_of_ok (S := S ++ T) gl
    have hm : ∀ S' : Sto, opMul (.int (N.body.length * cntL (N.loops.take i) : Nat)) (.int (((lvals l).map D.int).length : Nat)) S' = .ok (.int (N.body.length * cntL (N.loops.take (i + 1)) : Nat)) S' := fun S' => by
      have hf := gl.few
      rw [List.length_map, mul_ok ⟨by omega, by omega⟩, take_succ_get hl, cntL_app]
      simp only [cntL, Nat.mul_one, Int.natCast_mul, Int.mul_assoc]
    refine Ok.of rfl ?_
    unfold w_how_many_2
    refine ws_aug rfl ?_
    refine Ok.of (n1_ok (call_ok rfl rfl e1) len_new) ?_
    rw [hm]
    refine Ok.ret ?_
    exact ⟨T ++ [.lst ((lvals l).map .int)], some (lopD l), rfl, by rw [List.append_assoc]⟩
  · rintro E S' ⟨T, lp, rfl, rfl⟩
    rw [List.length_map, List.take_length]
    refine ws_ret (Ok.of rfl ?_)
    exact Ok.of (gc_cut rfl hlow) ⟨rfl, rfl⟩
end
theorem meth2_ok {S S1 : Sto} {E : En} {n : Nat} {f : D → List D → Sto → Rs D} {mo : En → Sto → Rs D} {t : En → Sto → Rs (List D)} {ds ys : List D} {r : Rs D} (h1 : mo E S = .ok (.ref n) S) (h2 : S[n]? = some (.lst ds)) (h3 : t E S = .ok ys S1) (h4 : f (.ref n) ys S1 = r) : mMeth f mo t E S = r := by
  unfold mMeth
  rw [h1, bind_ok]
  have : isLs S (.ref n) = true := by
    unfold isLs
    simp only [h2]
  rw [if_pos this, h3, bind_ok]
  exact h4
/-! ### points -/
/-- the point with a number -/
def pt : List NLoop → Nat → List Int
  | [], _ => []
  | l :: ls, k => (lvals l).getD (k / cntL ls % (lvals l).length) 0 :: pt ls k
theorem pt_len : ∀ (ls : List NLoop) (k : Nat), (pt ls k).length = ls.length
  | [], _ => rfl
  | l :: ls, k => by rw [pt, List.length_cons, List.length_cons, pt_len ls k]
theorem pt_snoc (l : NLoop) : ∀ (ls : List NLoop) (k : Nat), pt (ls ++ [l]) k = pt ls (k / (lvals l).length) ++ [(lvals l).getD (k % (lvals l).length) 0]
  | [], k => by simp [pt, cntL]
  | m :: ls, k => by
    rw [List.cons_append, pt, pt_snoc l ls k, pt, cntL_app, List.cons_append]
    congr 3
    show k / (cntL ls * cntL [l]) = _
    simp only [cntL, Nat.mul_one]
    rw [Nat.mul_comm, Nat.div_div_eq_div_mul]
section
variable {S : Sto} {N : Nest} {k : Nat}
theorem rev_get {α : Type} {xs : List α} {i : Nat} {x : α} (h : xs.reverse[i]? = some x) : i < xs.length ∧ xs.drop (xs.length - (i + 1)) = x :: xs.drop (xs.length - i) := by
  have hi : i < xs.length := by
    have := (List.getElem?_eq_some_iff.mp h).1
    simpa using this
  refine ⟨hi, ?_⟩
  rw [List.getElem?_reverse hi] at h
  obtain ⟨h1, rfl⟩ := List.getElem?_eq_some_iff.mp h
  rw [List.drop_eq_getElem_cons (show xs.length - (i + 1) < xs.length by omega)]
  congr 2 <;> omega
theorem point_at_ok (hlow : Low S) (hg : ∀ l ∈ N.loops, GL l) (hn : N.loops.length ≤ 1000) : m_point_at [nestD N, .int (k : Nat)] S = .ok (.tup ((pt N.loops k).map .int)) S := by
  suffices h : Ok (m_point_at [nestD N, .int (k : Nat)] S) (fun d S' => d = .tup ((pt N.loops k).map .int) ∧ S' = S) by
    obtain ⟨d, S', e, rfl, rfl⟩ := h.get
    exact e
  have hz : (1000000 : Nat) ≤ sizeLine := by decide
  unfold m_point_at b_point_at
  refine ok_mdef ?_
  refine ws_seq (ws_asg (Ok.of (lst_ok (ds := []) rfl (by decide)) (Ok.of rfl ?_)))
  have e0 : iA (m1 (fRev 0) (m2 opIx (mV 0) (mC (.int 1)))) (List.set (startE 5 [nestD N, .int (k : Nat)]) 2 (some (.ref S.length))) (S ++ [.lst []]) = .ok ⟨(N.loops.map lopD).reverse, fun _ => True, none⟩ (S ++ [.lst []]) := by
    show Rs.ok (AI.mk ((N.loops.map lopD).drop 0).reverse (fun _ => True) none) (S ++ [.lst []]) = _
    rw [List.drop_zero]
  refine ws_seq (ws_for (items := (N.loops.map lopD).reverse) (gd := fun _ => True) (fun i E S' => ∃ T a b, E = [some (nestD N), some (.int (k / cntL (N.loops.drop (N.loops.length - i)) : Nat)), some (.ref S.length), a, b] ∧ S' = S ++ (.lst ((pt (N.loops.drop (N.loops.length - i)) k).map .int) :: T)) e0 ⟨[], none, none, ?_, ?_⟩ (fun _ _ _ _ => trivial) ?_ ?_)
  · simp only [Nat.sub_zero, List.drop_length, cntL, Nat.div_one]
    rfl
  · simp only [Nat.sub_zero, List.drop_length, pt, List.map_nil]
  · rintro i d E S' hi ⟨T, a, b, rfl, rfl⟩
    rw [← List.map_reverse] at hi
    obtain ⟨l, hl, rfl⟩ := map_get hi
    obtain ⟨hil, hdr⟩ := rev_get hl
    have gl := hg l (List.mem_reverse.mp (List.mem_of_getElem? hl))
    rw [hdr]
    generalize hR : N.loops.drop (N.loops.length - i) = R
    have hRl : R.length ≤ 1000 := by rw [← hR, List.length_drop]; omega
    have e1 := values_of_ok (S := S ++ (.lst ((pt R k).map .int) :: T)) gl
    refine Ok.of rfl ?_
    unfold w_point_at_2
    refine ws_seq (ws_asg (Ok.of (call_ok rfl rfl e1) (Ok.of rfl ?_)))
    have hlen : ∀ S' : Sto, S' = S ++ (.lst ((pt R k).map .int) :: T) ++ [.lst ((lvals l).map .int)] → fLen [.ref (S ++ (.lst ((pt R k).map .int) :: T)).length] S' = .ok (.int ((lvals l).length : Nat)) S' := fun S' e => by
      subst e
      rw [len_new, List.length_map]
    have hmod : ∀ S' : Sto, opMod (.int (k / cntL R : Nat)) (.int ((lvals l).length : Nat)) S' = .ok (.int (k / cntL R % (lvals l).length : Nat)) S' := fun S' => by
      rw [mod_int, if_pos (by have := gl.pos; omega)]; rfl
    have hlt : k / cntL R % (lvals l).length < (lvals l).length := Nat.mod_lt _ gl.pos
    have hix : opIx (.ref (S ++ (.lst ((pt R k).map .int) :: T)).length) (.int (k / cntL R % (lvals l).length : Nat)) (S ++ (.lst ((pt R k).map .int) :: T) ++ [.lst ((lvals l).map .int)]) = .ok (.int ((lvals l).getD (k / cntL R % (lvals l).length) 0)) (S ++ (.lst ((pt R k).map .int) :: T) ++ [.lst ((lvals l).map .int)]) := by
      refine ix_lst (get_end ..) ?_
      rw [atI_nat (by simpa using hlt), List.getElem?_map, List.getElem?_eq_getElem hlt, List.getD_eq_getElem?_getD, List.getElem?_eq_getElem hlt]
      rfl
    have hS : (S ++ (.lst ((pt R k).map .int) :: T) ++ [.lst ((lvals l).map .int)])[S.length]? = some (.lst ((pt R k).map .int)) := by simp
    have hins : fInsert (.ref S.length) [.int 0, .int ((lvals l).getD (k / cntL R % (lvals l).length) 0)] (S ++ (.lst ((pt R k).map .int) :: T) ++ [.lst ((lvals l).map .int)]) = .ok .non (S ++ (.lst ((pt (l :: R) k).map .int) :: (T ++ [.lst ((lvals l).map .int)]))) := by
      unfold fInsert
      simp only [hS]
      rw [if_pos ⟨by rw [List.length_map, pt_len]; omega, by omega, by decide⟩]
      simp [pt]
    refine ws_seq (ws_expr (Ok.of (meth2_ok rfl hS (cons_ok rfl (cons_ok (m2_ok rfl (m2_ok rfl (n1_ok rfl (hlen _ rfl)) (hmod _)) hix) rfl)) hins) ?_))
    have hlen2 : fLen [.ref (S ++ (.lst ((pt R k).map .int) :: T)).length] (S ++ (.lst ((pt (l :: R) k).map .int) :: (T ++ [.lst ((lvals l).map .int)]))) = .ok (.int ((lvals l).length : Nat)) (S ++ (.lst ((pt (l :: R) k).map .int) :: (T ++ [.lst ((lvals l).map .int)]))) := by
      have h1 : (S ++ (.lst ((pt (l :: R) k).map .int) :: (T ++ [.lst ((lvals l).map .int)])))[(S ++ (O.lst ((pt R k).map .int) :: T)).length]? = some (.lst ((lvals l).map .int)) := by
        rw [List.getElem?_append_right (by simp)]
        simp
      rw [len_lst h1, List.length_map]
    have hdiv : ∀ S' : Sto, opFdiv (.int (k / cntL R : Nat)) (.int ((lvals l).length : Nat)) S' = .ok (.int (k / cntL (l :: R) : Nat)) S' := fun S' => by
      rw [fdiv_int, if_pos (by have := gl.pos; have := gl.few; omega), cntL, Nat.mul_comm, ← Nat.div_div_eq_div_mul]; rfl
    refine ws_aug rfl ?_
    refine Ok.of (n1_ok rfl hlen2) ?_
    rw [hdiv]
    refine Ok.ret ?_
    exact ⟨_, _, _, rfl, rfl⟩
  · rintro E S' ⟨T, a, b, rfl, rfl⟩
    have hl : ((N.loops.map lopD).reverse).length = N.loops.length := by simp
    rw [hl, Nat.sub_self, List.drop_zero]
    have hS : (S ++ (.lst ((pt N.loops k).map .int) :: T))[S.length]? = some (.lst ((pt N.loops k).map .int)) := by simp
    have ht : fTup [.ref S.length] (S ++ (.lst ((pt N.loops k).map .int) :: T)) = .ok (.tup ((pt N.loops k).map .int)) (S ++ (.lst ((pt N.loops k).map .int) :: T)) := by
      unfold fTup
      simp only [hS]
    refine ws_ret (Ok.of (n1_ok rfl ht) ?_)
    refine Ok.of (gc_cut ?_ hlow) ⟨rfl, rfl⟩
    exact lowDs_ints
end
end K02
end M

namespace M
namespace K02
open PySem L2
/-! ### comprehensions over data of one sort -/
theorem compL_map {α : Type} {g : Sto → Prop} {body : D → Sto → Rs (Option D)} {S : Sto} (h : α → D) (f : α → Option D) (hg : g S) : ∀ {xs : List α} {acc : List D}, (∀ x ∈ xs, body (h x) S = .ok (f x) S) → acc.length + xs.length ≤ sizeLine → compL g body (xs.map h) acc S = .ok (acc ++ xs.filterMap f) S
  | [], acc, _, _ => by rw [List.map_nil, compL, if_pos hg]; simp
  | d :: r, acc, hb, hl => by
    rw [List.map_cons, compL, if_pos hg, hb d (List.mem_cons_self ..), noX_ok, bind_ok]
    simp only [List.length_cons] at hl
    have h' : ∀ x ∈ r, body (h x) S = .ok (f x) S := fun x hx => hb x (List.mem_cons_of_mem _ hx)
    cases hf : f d with
    | none =>
      show compL g body (r.map h) acc S = _
      rw [compL_map h f hg h' (by omega), List.filterMap_cons, hf]
    | some y =>
      show (if acc.length < sizeLine then compL g body (r.map h) (acc ++ [y]) S else .bad) = _
      rw [if_pos (by omega), compL_map h f hg h' (by simp; omega), List.filterMap_cons, hf]
      simp
theorem mComp_map {α : Type} {mi : En → Sto → Rs AI} {vs : List Nat} {g : D → En → Sto → Rs En} {t : En → Sto → Rs Bool} {m : En → Sto → Rs D} {E : En} {S S1 : Sto} {xs : List α} {gd : Sto → Prop} (h : α → D) (f : α → Option D) (hmi : mi E S = .ok ⟨xs.map h, gd, none⟩ S1) (hg : gd S1)
    (hb : ∀ x ∈ xs, bodyL vs g t m E (h x) S1 = .ok (f x) S1) (hl : xs.length ≤ 1000000) : mComp mi vs g t m E S = .ok (xs.filterMap f) S1 := by
  have hz : (1000000 : Nat) ≤ sizeLine := by decide
  unfold mComp
  rw [hmi, bind_ok]
  show (compL gd (bodyL vs g t m E) (xs.map h) [] S1).bind _ = _
  rw [compL_map h f hg hb (by simp; omega)]
  rfl
theorem filterMap_some {α β : Type} (f : α → β) (xs : List α) : xs.filterMap (fun x => some (f x)) = xs.map f := by
  induction xs with
  | nil => rfl
  | cons x r ih => rw [List.filterMap_cons, ih]; rfl
/-- .. every item kept -/
theorem mComp_all {α : Type} {mi : En → Sto → Rs AI} {vs : List Nat} {g : D → En → Sto → Rs En} {t : En → Sto → Rs Bool} {m : En → Sto → Rs D} {E : En} {S S1 : Sto} {xs : List α} {gd : Sto → Prop} (h : α → D) (f : α → D) (hmi : mi E S = .ok ⟨xs.map h, gd, none⟩ S1) (hg : gd S1)
    (hb : ∀ x ∈ xs, bodyL vs g t m E (h x) S1 = .ok (some (f x)) S1) (hl : xs.length ≤ 1000000) : mComp mi vs g t m E S = .ok (xs.map f) S1 := by
  rw [mComp_map h (fun x => some (f x)) hmi hg hb hl, filterMap_some]
theorem compD_map {α : Type} {g : Sto → Prop} {body : D → Sto → Rs (Option (Key × D))} {S : Sto} (h : α → D) (f : α → Key × D) (hg : g S) : ∀ {xs : List α} {acc : List (Key × D)}, (∀ x ∈ xs, body (h x) S = .ok (some (f x)) S) → acc.length + xs.length ≤ sizeLine → (acc.map (·.1) ++ xs.map fun x => (f x).1).Nodup →
    compD g body (xs.map h) acc S = .ok (acc ++ xs.map f) S
  | [], acc, _, _, _ => by rw [List.map_nil, compD, if_pos hg]; simp
  | d :: r, acc, hb, hl, hn => by
    rw [List.map_cons, compD, if_pos hg, hb d (List.mem_cons_self ..), noX_ok, bind_ok]
    simp only [List.length_cons] at hl
    have hno : ¬ (acc.any fun kv => decide (kv.1 = (f d).1)) = true := fun z => by
      obtain ⟨kv, hk, e⟩ := List.any_eq_true.mp z
      have e : kv.1 = (f d).1 := of_decide_eq_true e
      rw [List.map_cons] at hn
      exact (List.nodup_append.mp hn).2.2 _ (List.mem_map.mpr ⟨kv, hk, rfl⟩) _ (List.mem_cons_self ..) e
    have es : setK acc (f d).1 (f d).2 = acc ++ [f d] := by unfold setK; rw [if_neg hno]
    show (if acc.length < sizeLine then compD g body (r.map h) (setK acc (f d).1 (f d).2) S else .bad) = _
    rw [if_pos (by omega), es, compD_map h f hg (fun x hx => hb x (List.mem_cons_of_mem _ hx)) (by simp; omega) (by simpa using hn)]
    simp
theorem mCompD_all {α : Type} {mi : En → Sto → Rs AI} {vs : List Nat} {g : D → En → Sto → Rs En} {t : En → Sto → Rs Bool} {mk m : En → Sto → Rs D} {E : En} {S S1 : Sto} {xs : List α} {gd : Sto → Prop} (h : α → D) (f : α → Key × D) (hmi : mi E S = .ok ⟨xs.map h, gd, none⟩ S1) (hg : gd S1)
    (hb : ∀ x ∈ xs, bodyD vs g t mk m E (h x) S1 = .ok (some (f x)) S1) (hl : xs.length ≤ 1000000) (hn : (xs.map fun x => (f x).1).Nodup) : mCompD mi vs g t mk m E S = .ok (xs.map f) S1 := by
  have hz : (1000000 : Nat) ≤ sizeLine := by decide
  unfold mCompD
  rw [hmi, bind_ok]
  show (compD gd (bodyD vs g t mk m E) (xs.map h) [] S1).bind _ = _
  rw [compD_map h f hg hb (by simp; omega) (by simpa using hn)]
  rfl
theorem adD_ok {m : En → Sto → Rs (List (Key × D))} {E : En} {S S1 : Sto} {kvs : List (Key × D)} (h : m E S = .ok kvs S1) : mAdD m E S = .ok (.ref S1.length) (S1 ++ [.dk kvs]) := by
  unfold mAdD; rw [h]; rfl
/-! ### cells -/
/-- what a loop's name is worth at a point -/
def envP (ls : List NLoop) (p : List Int) (x : Str) : Int := (((ls.zip p).find? fun z => decide (z.1.x = x)).map (·.2)).getD 0
def toldK (ls : List NLoop) (p : List Int) : List (Key × D) := (ls.zip p).map fun z => (.inr z.1.x, .int z.2)
theorem told_get {ls : List NLoop} {p : List Int} {x : Str} (hl : p.length = ls.length) (hx : x ∈ ls.map (·.x)) : getK (toldK ls p) (.inr x) = some (.int (envP ls p x)) := by
  unfold getK toldK envP
  rw [List.find?_map]
  obtain ⟨l, hl1, rfl⟩ := List.mem_map.mp hx
  obtain ⟨i, hi, e⟩ := List.getElem_of_mem hl1
  have hm : (l, p[i]'(by omega)) ∈ ls.zip p := by
    refine List.mem_iff_getElem.mpr ⟨i, by simp; omega, ?_⟩
    rw [List.getElem_zip, e]
  have e1 : ((fun kv : Key × D => decide (kv.1 = Sum.inr l.x)) ∘ fun z : NLoop × Int => (Sum.inr z.1.x, D.int z.2)) = fun z => decide (z.1.x = l.x) := by
    funext z
    simp
  rw [e1]
  cases hf : (ls.zip p).find? (fun z => decide (z.1.x = l.x)) with
  | none =>
    have := List.find?_eq_none.mp hf _ hm
    simp at this
  | some z => rfl
def sumAt (e : Str → Int) (s : NSum) : Int := s.n + (s.fs.map fun f => e f.1 * f.2).sum
abbrev Cell := Str × List Int
def cellD (c : Cell) : D := .tup [.str c.1, .tup (c.2.map .int)]
/-- a sum of the loops -/
structure GS (ls : List NLoop) (s : NSum) : Prop where
  few : s.fs.length ≤ 1000
  fac : ∀ f ∈ s.fs, f.1 ∈ ls.map (·.x) ∧ -1000 ≤ f.2 ∧ f.2 ≤ 1000
def cellAt (ls : List NLoop) (p : List Int) (t : Str) (ps : List NSum) : Cell := (t, ps.map (sumAt (envP ls p)))
section
variable {S : Sto} {N : Nest} {p : List Int} {t : Str} {ps : List NSum}
theorem cell_of_ok (hlow : Low S) (hl : p.length = N.loops.length) (hn : (N.loops.map (·.x)).Nodup) (h1 : N.loops.length ≤ 1000) (h2 : ps.length ≤ 1000) (hs : ∀ s ∈ ps, GS N.loops s) :
    m_cell_of [nestD N, .str t, plcD ps, .tup (p.map .int)] S = .ok (cellD (cellAt N.loops p t ps)) S := by
  have hz : (1000000 : Nat) ≤ sizeLine := by decide
  have ez : (fun E S => iZpS (aCons (m2 opIx (mV 0) (mC (.int 1))) (aCons (mV 3) (aNil))) E S) (startE 12 [nestD N, .str t, plcD ps, .tup (p.map .int)]) S = .ok ⟨(N.loops.zip p).map fun z => .tup [lopD z.1, .int z.2], fun S => sqD S (lopsD N.loops) = some (N.loops.map lopD) ∧ sqD S (.tup (p.map .int)) = some (p.map .int), none⟩ S := by
    show aiZipS [lopsD N.loops, .tup (p.map .int)] S = _
    unfold aiZipS
    show (if (N.loops.map lopD).length = (p.map D.int).length then _ else _) = _
    rw [if_pos (by simp [hl])]
    congr 2
    unfold zipD
    rw [List.zip_map, List.map_map]
    rfl
  have eC : mCompD (iZpS (aCons (m2 opIx (mV 0) (mC (.int 1))) (aCons (mV 3) (aNil)))) [6, 7] (gT 2 (gCons (gN 6) (gCons (gN 7) (gNil)))) (tYesM) (m2 opIx (mV 6) (mC (.int 0))) (mV 7) (startE 12 [nestD N, .str t, plcD ps, .tup (p.map .int)]) S = .ok (toldK N.loops p) S := by
    refine mCompD_all (fun z : NLoop × Int => .tup [lopD z.1, .int z.2]) (fun z => (.inr z.1.x, .int z.2)) ez ⟨rfl, rfl⟩ (fun z _ => rfl) (by simp; omega) ?_
    have : ((N.loops.zip p).map fun z => (Sum.inr z.1.x : Key)) = (N.loops.map (·.x)).map Sum.inr := by
      rw [← List.map_fst_zip (l₁ := N.loops) (l₂ := p) (by omega), List.map_map, List.map_map, List.map_fst_zip (by omega)]
      rfl
    rw [this]
    exact List.Pairwise.map _ (fun a b h z => h (Sum.inr.inj z)) hn
  suffices h : Ok (m_cell_of [nestD N, .str t, plcD ps, .tup (p.map .int)] S) (fun d S' => d = cellD (cellAt N.loops p t ps) ∧ S' = S) by
    obtain ⟨d, S', e, rfl, rfl⟩ := h.get
    exact e
  unfold m_cell_of b_cell_of
  refine ok_mdef ?_
  refine ws_seq (ws_asg (Ok.of (adD_ok eC) (Ok.of rfl ?_)))
  have hT : (S ++ [.dk (toldK N.loops p)])[S.length]? = some (.dk (toldK N.loops p)) := get_end ..
  have eR : mComp (iA (mV 2)) [8, 9] (gT 2 (gCons (gN 8) (gCons (gN 9) (gNil)))) (tYesM) (m2 opAdd (mV 8) (mTL fSum (mComp (iA (mV 9)) [10, 11] (gT 2 (gCons (gN 10) (gCons (gN 11) (gNil)))) (tYesM) (m2 opMul (m2 opIx (mV 4) (mV 10)) (mV 11))))) (List.set (startE 12 [nestD N, .str t, plcD ps, .tup (p.map .int)]) 4 (some (.ref S.length))) (S ++ [.dk (toldK N.loops p)]) = .ok (ps.map fun s => .int (sumAt (envP N.loops p) s)) (S ++ [.dk (toldK N.loops p)]) := by
    refine mComp_all sumD _ rfl trivial (fun s hsm => ?_) (by omega)
    have gs := hs s hsm
    refine body_yes (E1 := [some (nestD N), some (.str t), some (plcD ps), some (.tup (p.map .int)), some (.ref S.length), none, none, none, some (.int s.n), some (.tup (s.fs.map facD)), none, none]) rfl ?_
    have eI : mComp (iA (mV 9)) [10, 11] (gT 2 (gCons (gN 10) (gCons (gN 11) (gNil)))) (tYesM) (m2 opMul (m2 opIx (mV 4) (mV 10)) (mV 11)) [some (nestD N), some (.str t), some (plcD ps), some (.tup (p.map .int)), some (.ref S.length), none, none, none, some (.int s.n), some (.tup (s.fs.map facD)), none, none] (S ++ [.dk (toldK N.loops p)]) = .ok (s.fs.map fun f => .int (envP N.loops p f.1 * f.2)) (S ++ [.dk (toldK N.loops p)]) := by
      refine mComp_all facD _ rfl trivial (fun f hf => ?_) (by have := gs.few; omega)
      obtain ⟨g1, g2, g3⟩ := gs.fac f hf
      refine body_yes (E1 := [some (nestD N), some (.str t), some (plcD ps), some (.tup (p.map .int)), some (.ref S.length), none, none, none, some (.int s.n), some (.tup (s.fs.map facD)), some (.str f.1), some (.int f.2)]) rfl ?_
      exact m2_ok (m2_ok rfl rfl (ix_dk hT rfl (told_get hl g1))) rfl (mul_ok ⟨by omega, by omega⟩)
    have eS : fSum (s.fs.map fun f => D.int (envP N.loops p f.1 * f.2)) (S ++ [.dk (toldK N.loops p)]) = .ok (.int (s.fs.map fun f => envP N.loops p f.1 * f.2).sum) (S ++ [.dk (toldK N.loops p)]) := by
      have := sum_ints (S := S ++ [.dk (toldK N.loops p)]) (ns := s.fs.map fun f => envP N.loops p f.1 * f.2)
      rw [List.map_map] at this
      exact this
    exact m2_ok rfl (tl_ok eI eS) rfl
  refine ws_seq (ws_asg (Ok.of (ad_ok eR) (Ok.of rfl ?_)))
  have ht : ∀ {S' : Sto} {n : Nat} {ds : List D}, S'[n]? = some (.lst ds) → fTup [.ref n] S' = .ok (.tup ds) S' := fun h => by
    unfold fTup
    simp only [h]
  refine ws_ret (Ok.of (tup_ok (cons_ok rfl (cons_ok (n1_ok rfl (ht (get_end ..))) rfl)) (by simp)) ?_)
  have e2 : (ps.map fun s => D.int (sumAt (envP N.loops p) s)) = (ps.map (sumAt (envP N.loops p))).map D.int := by rw [List.map_map]; rfl
  rw [e2, List.append_assoc]
  refine Ok.of (gc_cut ?_ hlow) ⟨rfl, rfl⟩
  show (true && (lowDs _ _ && true)) = true
  rw [lowDs_ints]; rfl
end
end K02
end M

namespace M
namespace K02
open PySem L2
/-! ### the ats of a value -/
def ats : Val → List Val
  | .num _ => []
  | .lop _ => []
  | .at t ps => [.at t ps]
  | .two _ a b => ats a ++ ats b
def dpt : Val → Nat
  | .num _ => 1
  | .lop _ => 1
  | .at _ _ => 1
  | .two _ a b => 1 + max (dpt a) (dpt b)
def Pw (w : Str) : Prop := w = "sum" ∨ w = "less" ∨ w = "times" ∨ w = "most"
/-- words as they must be -/
def GW : Val → Prop
  | .num _ => True
  | .lop _ => True
  | .at _ _ => True
  | .two w a b => Pw w ∧ GW a ∧ GW b
theorem ats_len : ∀ v : Val, (ats v).length ≤ 2 ^ dpt v
  | .num _ => by simp [ats]
  | .lop _ => by simp [ats]
  | .at _ _ => by simp [ats, dpt]
  | .two _ a b => by
    rw [ats, dpt, List.length_append, Nat.add_comm 1, Nat.pow_succ]
    have h1 := ats_len a
    have h2 := ats_len b
    have h3 : 2 ^ dpt a ≤ 2 ^ max (dpt a) (dpt b) := Nat.pow_le_pow_right (by decide) (Nat.le_max_left ..)
    have h4 : 2 ^ dpt b ≤ 2 ^ max (dpt a) (dpt b) := Nat.pow_le_pow_right (by decide) (Nat.le_max_right ..)
    omega
/-- a loop that puts all items behind a list of the store -/
theorem lp_app {g : Sto → Prop} {n j : Nat} {E : En} (hj : ∀ d S, mV j ((wipeE [j] E).set j (some d)) S = .ok d S) : ∀ {items acc : List D} {S : Sto}, S[n]? = some (.lst acc) → (∀ acc', g (S.set n (.lst acc'))) → acc.length + items.length ≤ sizeLine → lpL g (bd1 n [j] (gN j) tYesM (mV j) E) items S = .ok () (S.set n (.lst (acc ++ items)))
  | [], acc, S, h, hg, _ => by
    have e : S.set n (.lst (acc ++ [])) = S := by
      rw [List.append_nil]
      obtain ⟨h1, h2⟩ := List.getElem?_eq_some_iff.mp h
      rw [← h2, List.set_getElem_self]
    have hg0 := hg (acc ++ [])
    rw [e] at hg0
    rw [lpL_nil, if_pos hg0, e]
  | d :: r, acc, S, h, hg, hl => by
    have hn := (List.getElem?_eq_some_iff.mp h).1
    have e : S.set n (.lst acc) = S := by
      obtain ⟨h1, h2⟩ := List.getElem?_eq_some_iff.mp h
      rw [← h2, List.set_getElem_self]
    have hg0 := hg acc
    rw [e] at hg0
    simp only [List.length_cons] at hl
    have eb : bd1 n [j] (gN j) tYesM (mV j) E d S = .ok () (S.set n (.lst (acc ++ [d]))) := by
      unfold bd1
      show ((Rs.ok true S).bind fun b S2 => if b = true then (mV j ((wipeE [j] E).set j (some d)) S2).bind fun y S3 => apn n y S3 else .ok () S2) = _
      rw [bind_ok, if_pos rfl, hj, bind_ok]
      unfold apn
      simp only [h]
      rw [if_pos (by omega)]
    rw [lpL_cons, if_pos hg0, eb, noX_ok, bind_ok, lp_app hj (acc := acc ++ [d]) (by simp [hn]) (fun acc' => by rw [List.set_set]; exact hg acc') (by simp; omega), List.set_set]
    simp
/-! ### data without references -/
theorem lowDs_map {α : Type} {n : Nat} {f : α → D} {xs : List α} (h : ∀ x ∈ xs, lowD n (f x) = true) : lowDs n (xs.map f) = true := lowDs_all fun d hd => by
  obtain ⟨x, hx, rfl⟩ := List.mem_map.mp hd
  exact h x hx
theorem fac_low {n : Nat} {f : Str × Int} : lowD n (facD f) = true := rfl
theorem sum_low {n : Nat} {s : NSum} : lowD n (sumD s) = true := by
  show (true && (lowDs n (s.fs.map facD) && true)) = true
  rw [lowDs_map fun _ _ => fac_low]; rfl
theorem plc_low {n : Nat} {ps : List NSum} : lowD n (plcD ps) = true := lowDs_map (f := sumD) fun _ _ => sum_low
theorem val_low {n : Nat} : ∀ {v : Val}, lowD n (valD v) = true
  | .num _ => rfl
  | .lop _ => rfl
  | .at t ps => by
    show (true && (true && (lowD n (plcD ps) && true))) = true
    rw [plc_low]; rfl
  | .two w a b => by
    show (true && (lowD n (valD a) && (lowD n (valD b) && true))) = true
    rw [val_low, val_low]; rfl
theorem low_app {S T : Sto} (h : Low S) (ht : lowS 0 T = true) : Low (S ++ T) := by
  unfold Low
  refine List.all_eq_true.mpr fun o ho => ?_
  rcases List.mem_append.mp ho with ho | ho
  · exact lowO_mono (by simp) (List.all_eq_true.mp h o ho)
  · exact lowO_mono (Nat.zero_le _) (List.all_eq_true.mp ht o ho)
theorem cl_app {T U : Sto} (h : lowS 0 T = true) (ht : lowS 0 U = true) : lowS 0 (T ++ U) = true := by
  unfold lowS at *
  rw [List.all_append, h, ht]; rfl
theorem cl_cons {o : O} {U : Sto} (h : lowO 0 o = true) (ht : lowS 0 U = true) : lowS 0 (o :: U) = true := by
  unfold lowS at *
  rw [List.all_cons, h, ht]; rfl
/-- a list somewhere behind S -/
def NewL (S : Sto) (ds : List D) (d : D) (S' : Sto) : Prop := ∃ T k, d = .ref (S.length + k) ∧ S' = S ++ T ∧ T[k]? = some (.lst ds) ∧ lowS 0 T = true
theorem NewL.get {S S' : Sto} {ds : List D} {d : D} (h : NewL S ds d S') : ∃ n, d = .ref n ∧ S'[n]? = some (.lst ds) ∧ S.length ≤ n ∧ ∃ T, S' = S ++ T ∧ lowS 0 T = true := by
  obtain ⟨T, k, rfl, rfl, e, hc⟩ := h
  exact ⟨_, rfl, by rw [List.getElem?_append_right (Nat.le_add_right ..), Nat.add_sub_cancel_left]; exact e, Nat.le_add_right .., T, rfl, hc⟩
theorem NewL.one {S : Sto} {ds : List D} (h : lowDs 0 ds = true) : NewL S ds (.ref S.length) (S ++ [.lst ds]) := ⟨_, 0, rfl, rfl, rfl, cl_cons h rfl⟩
theorem NewL.gc {S S' : Sto} {ds : List D} {d : D} (h : NewL S ds d S') : gc S.length d S' = .ok d S' := by
  obtain ⟨T, k, rfl, rfl, e, _⟩ := h
  unfold M.gc
  have : lowD S.length (.ref (S.length + k)) = false := by simp [lowD]
  rw [this]; rfl
theorem ats_ok : ∀ {v : Val} {f : Nat} {S : Sto}, dpt v ≤ f → dpt v ≤ 10 → GW v → Ok (m_ats_of f [valD v] S) (NewL S ((ats v).map valD))
  | v, 0, S, hf, _, _ => by cases v <;> simp [dpt] at hf
  | .num i, f + 1, S, _, _, _ => by
    unfold m_ats_of b_ats_of
    refine ok_mdef (ws_seq (ws_no (Ok.of (tB_ok (m2_ok rfl rfl eq_str)) ⟨by decide +kernel, ws_nil (ws_ret ?_)⟩)))
    have e : opIn (.str "num") c_PAIRS S = .ok (.bl false) S := by kernel_rfl
    unfold mIfE
    have e2 : tB (m2 opIn (m2 opIx (mV 0) (mC (.int 0))) (mC c_PAIRS)) (startE 3 [valD (.num i)]) S = .ok false S := tB_ok (m2_ok rfl rfl e)
    rw [e2, bind_ok, if_neg (by simp)]
    refine Ok.of (lst_ok (ds := []) rfl (by decide)) ?_
    exact Ok.of (NewL.one (ds := []) rfl).gc (NewL.one rfl)
  | .lop x, f + 1, S, _, _, _ => by
    unfold m_ats_of b_ats_of
    refine ok_mdef (ws_seq (ws_no (Ok.of (tB_ok (m2_ok rfl rfl eq_str)) ⟨by decide +kernel, ws_nil (ws_ret ?_)⟩)))
    have e : opIn (.str "loop") c_PAIRS S = .ok (.bl false) S := by kernel_rfl
    unfold mIfE
    have e2 : tB (m2 opIn (m2 opIx (mV 0) (mC (.int 0))) (mC c_PAIRS)) (startE 3 [valD (.lop x)]) S = .ok false S := tB_ok (m2_ok rfl rfl e)
    rw [e2, bind_ok, if_neg (by simp)]
    refine Ok.of (lst_ok (ds := []) rfl (by decide)) ?_
    exact Ok.of (NewL.one (ds := []) rfl).gc (NewL.one rfl)
  | .at t ps, f + 1, S, _, _, _ => by
    unfold m_ats_of b_ats_of
    refine ok_mdef (ws_seq (ws_yes (Ok.of (tB_ok (m2_ok rfl rfl eq_str)) ⟨by decide +kernel, ws_ret ?_⟩)))
    refine Ok.of (lst_ok (ds := [valD (.at t ps)]) rfl (by simp)) ?_
    have hlo : lowDs 0 [valD (.at t ps)] = true := lowDs_map (f := valD) (xs := [.at t ps]) fun _ _ => val_low
    exact Ok.of (NewL.one (ds := [valD (.at t ps)]) hlo).gc (NewL.one hlo)
  | .two w a b, f + 1, S, hf, hd, hw => by
    obtain ⟨hw, ha, hb⟩ := hw
    rw [dpt] at hf hd
    unfold m_ats_of b_ats_of
    have e0 : decide (w = "at") = false := by rcases hw with rfl | rfl | rfl | rfl <;> decide +kernel
    refine ok_mdef (ws_seq (ws_no (Ok.of (tB_ok (m2_ok rfl rfl eq_str)) ⟨e0, ws_nil (ws_ret ?_)⟩)))
    have e : opIn (.str w) c_PAIRS S = .ok (.bl true) S := by rcases hw with rfl | rfl | rfl | rfl <;> kernel_rfl
    unfold mIfE
    have e2 : tB (m2 opIn (m2 opIx (mV 0) (mC (.int 0))) (mC c_PAIRS)) (startE 3 [valD (.two w a b)]) S = .ok true S := tB_ok (m2_ok rfl rfl e)
    rw [e2, bind_ok, if_pos rfl]
    unfold mLc2
    have e3 : iA (mSl (mV 0) (oSome (mC (.int 1))) (oNone)) (startE 3 [valD (.two w a b)]) S = .ok ⟨[valD a, valD b], fun _ => True, none⟩ S := by rfl
    rw [e3, bind_ok]
    have hla : (ats a).length ≤ 1024 := Nat.le_trans (ats_len a) (Nat.pow_le_pow_right (by decide) (by omega : dpt a ≤ 10))
    have hlb : (ats b).length ≤ 1024 := Nat.le_trans (ats_len b) (Nat.pow_le_pow_right (by decide) (by omega : dpt b ≤ 10))
    have hz : (1000000 : Nat) ≤ sizeLine := by decide
    obtain ⟨d1, S1, q1, n1⟩ := (ats_ok (v := a) (f := f) (S := S ++ [.lst []]) (by omega) (by omega) ha).get
    obtain ⟨r1, rfl, g1, l1, T1, rfl, hc1⟩ := n1.get
    rw [List.length_append, List.length_singleton] at l1
    have step : ∀ (x : Val) (S0 S1 : Sto) (acc : List D) (r : Nat) (ds : List D), m_ats_of f [valD x] S0 = .ok (.ref r) S1 → S1[r]? = some (.lst ds) → S1[S.length]? = some (.lst acc) → r ≠ S.length → acc.length + ds.length ≤ sizeLine →
        bd2 S.length [1, 2] (gN 1) tYesM (iA (mN (mCl 1 (m_ats_of f)) (aCons (mV 1) (aNil)))) [2] (gN 2) tYesM (mV 2) (startE 3 [valD (.two w a b)]) (valD x) S0 = .ok () (S1.set S.length (.lst (acc ++ ds))) := fun x S0 S1 acc r ds q g h hr hl => by
      have em : iA (mN (mCl 1 (m_ats_of f)) (aCons (mV 1) (aNil))) [some (valD (.two w a b)), some (valD x), none] S0 = .ok ⟨ds, fun S => S[r]? = some (.lst ds), none⟩ S1 := by
        show (mN (mCl 1 (m_ats_of f)) (aCons (mV 1) (aNil)) [some (valD (.two w a b)), some (valD x), none] S0).bind aiOf = _
        have ec : mN (mCl 1 (m_ats_of f)) (aCons (mV 1) (aNil)) [some (valD (.two w a b)), some (valD x), none] S0 = .ok (.ref r) S1 := call_ok rfl rfl q
        rw [ec, bind_ok]
        unfold aiOf
        simp only [g]
      unfold bd2
      have eg : gN 1 (valD x) (wipeE [1, 2] (startE 3 [valD (.two w a b)])) S0 = .ok [some (valD (.two w a b)), some (valD x), none] S0 := rfl
      have et : tYesM [some (valD (.two w a b)), some (valD x), none] S0 = .ok true S0 := rfl
      rw [eg, bind_ok, et, bind_ok, if_pos rfl, em, bind_ok]
      exact lp_app (fun d S => rfl) h (fun acc' => by show (S1.set S.length (.lst acc'))[r]? = some (.lst ds); rw [List.getElem?_set_ne (Ne.symm hr)]; exact g) hl
    have c1 := step a (S ++ [.lst []]) _ [] r1 ((ats a).map valD) q1 g1 (by simp) (by omega) (by simp; omega)
    have es : (S ++ [O.lst []] ++ T1).set S.length (.lst ([] ++ (ats a).map valD)) = S ++ (.lst ((ats a).map valD) :: T1) := by simp
    rw [es] at c1
    obtain ⟨d2, S2, q2, n2⟩ := (ats_ok (v := b) (f := f) (S := S ++ (.lst ((ats a).map valD) :: T1)) (by omega) (by omega) hb).get
    obtain ⟨r2, rfl, g2, l2, T2, rfl, hc2⟩ := n2.get
    rw [List.length_append, List.length_cons] at l2
    have c2 := step b (S ++ (.lst ((ats a).map valD) :: T1)) _ ((ats a).map valD) r2 ((ats b).map valD) q2 g2 (by simp) (by omega) (by simp; omega)
    have es2 : (S ++ (O.lst ((ats a).map valD) :: T1) ++ T2).set S.length (.lst ((ats a).map valD ++ (ats b).map valD)) = S ++ (.lst ((ats (.two w a b)).map valD) :: (T1 ++ T2)) := by simp [ats]
    rw [es2] at c2
    have hlp : lpL (fun _ => True) (bd2 S.length [1, 2] (gN 1) tYesM (iA (mN (mCl 1 (m_ats_of f)) (aCons (mV 1) (aNil)))) [2] (gN 2) tYesM (mV 2) (startE 3 [valD (.two w a b)])) [valD a, valD b] (S ++ [.lst []]) = .ok () (S ++ (.lst ((ats (.two w a b)).map valD) :: (T1 ++ T2))) := by
      rw [lpL_cons, if_pos trivial, c1, noX_ok, bind_ok, lpL_cons, if_pos trivial, c2, noX_ok, bind_ok, lpL_nil, if_pos trivial]
    show Ok ((lpL (fun _ => True) _ [valD a, valD b] (S ++ [.lst []])).bind fun _ S2 => Rs.ok (D.ref S.length) S2) _
    rw [hlp, bind_ok]
    have nl : NewL S ((ats (.two w a b)).map valD) (.ref S.length) (S ++ (.lst ((ats (.two w a b)).map valD) :: (T1 ++ T2))) := ⟨_, 0, rfl, rfl, rfl, cl_cons (lowDs_map fun _ _ => val_low) (cl_app hc1 hc2)⟩
    exact Ok.ret (Ok.of nl.gc nl)
end K02
end M

namespace M
namespace K02
open PySem L2
/-! ### instances -/
structure GT (ls : List NLoop) (s : Stm) : Prop where
  few : s.ps.length ≤ 3
  gs : ∀ q ∈ s.ps, GS ls q
  gw : GW s.v
  dp : dpt s.v ≤ 6
  at' : ∀ t ps, Val.at t ps ∈ ats s.v → ps.length ≤ 3 ∧ ∀ q ∈ ps, GS ls q
  w : s.w = "set" ∨ s.w = "add"
structure GN (N : Nest) : Prop where
  gl : ∀ l ∈ N.loops, GL l
  nd : (N.loops.map (·.x)).Nodup
  ll : N.loops.length ≤ 4
  b1 : 1 ≤ N.body.length
  b2 : N.body.length ≤ 4
  st : ∀ s ∈ N.body, GT N.loops s
def pN (N : Nest) (n : Nat) : List Int := pt N.loops (n / N.body.length)
def instD (N : Nest) (n : Nat) : D := .tup [.tup ((pN N n).map .int), .int (n % N.body.length : Nat)]
section
variable {S : Sto} {N : Nest} {n : Nat}
theorem body_len {E : En} (h : mV 0 E S = .ok (nestD N) S) : mN fLen (aCons (m2 opIx (mV 0) (mC (.int 2))) aNil) E S = .ok (.int (N.body.length : Nat)) S := by
  refine n1_ok (m2_ok h rfl rfl) ?_
  show Rs.ok (D.int ((N.body.map stmD).length : Nat)) S = _
  rw [List.length_map]
theorem instance_ok (hlow : Low S) (g : GN N) (hn : n < cnt N) : m_instance_of [nestD N, .int (n : Nat)] S = .ok (instD N n) S := by
  have e1 := how_many_ok hlow g.gl
  have e2 : m_is_whole [.int (n : Nat), .int 0, .int ((cnt N : Nat) - 1)] S = .ok (.bl true) S := by
    rw [is_whole_ok, decide_eq_true (by omega), decide_eq_true (by omega)]; rfl
  have hb := g.b1
  have hdiv : ∀ S' : Sto, opFdiv (.int (n : Nat)) (.int (N.body.length : Nat)) S' = .ok (.int (n / N.body.length : Nat)) S' := fun S' => by
    rw [fdiv_int, if_pos (by have := g.b2; omega)]; rfl
  have hmod : ∀ S' : Sto, opMod (.int (n : Nat)) (.int (N.body.length : Nat)) S' = .ok (.int (n % N.body.length : Nat)) S' := fun S' => by
    rw [mod_int, if_pos (by omega)]; rfl
  have e3 := point_at_ok (k := n / N.body.length) hlow g.gl (by have := g.ll; omega)
  refine def_rt (d := instD N n) (S1 := S) (seq_ok (if_no (not_no (tV_bl (call_ok (cons_ok rfl (cons_ok rfl (cons_ok (m2_ok (call_ok rfl rfl e1) rfl rfl) rfl))) rfl e2))) rfl) (ret_ok ?_)) (gc_same rfl)
  exact tup_ok (cons_ok (call_ok (cons_ok rfl (cons_ok (m2_ok rfl (body_len rfl) (hdiv _)) rfl)) rfl e3) (cons_ok (m2_ok rfl (body_len rfl) (hmod _)) rfl)) (by simp)
theorem instance_no {x : D} (hlow : Low S) (g : GN N) (hx : m_is_whole [x, .int 0, .int ((cnt N : Nat) - 1)] S = .ok (.bl false) S) : m_instance_of [nestD N, x] S = .exc "NoInstance" [] S := by
  have e1 := how_many_ok hlow g.gl
  unfold m_instance_of mDef b_instance_of sSeq
  have e : sIf (tNotM (tV (mN (mCl 3 m_is_whole) (aCons (mV 1) (aCons (mC (.int 0)) (aCons (m2 opSub (mN (mCl 1 m_how_many) (aCons (mV 0) (aNil))) (mC (.int 1))) (aNil))))))) (sExc "NoInstance") (sNil) (startE 2 [nestD N, x]) S = .exc "NoInstance" [] S := by
    refine if_yes (S1 := S) ?_ rfl
    have := tV_bl (call_ok (n := 3) (f := m_is_whole) (E := startE 2 [nestD N, x]) (t := aCons (mV 1) (aCons (mC (.int 0)) (aCons (m2 opSub (mN (mCl 1 m_how_many) (aCons (mV 0) (aNil))) (mC (.int 1))) (aNil)))) (cons_ok rfl (cons_ok rfl (cons_ok (m2_ok (call_ok rfl rfl e1) rfl rfl) rfl))) rfl hx)
    unfold tNotM
    rw [this]; rfl
  rw [e]; rfl
/-- the statement of an instance -/
def stN (N : Nest) (n : Nat) : Stm := N.body.getD (n % N.body.length) ⟨"", "", [], .num 0⟩
theorem stN_get (g : GN N) : N.body[n % N.body.length]? = some (stN N n) := by
  have : n % N.body.length < N.body.length := Nat.mod_lt _ g.b1
  unfold stN
  rw [List.getD_eq_getElem?_getD, List.getElem?_eq_getElem this]; rfl
theorem stN_mem (g : GN N) : stN N n ∈ N.body := List.mem_of_getElem? (stN_get g)
theorem clx_ok {k : Nat} {f : List D → Sto → Rs D} {t : En → Sto → Rs (List D)} {E : En} {S S1 S2 : Sto} {ds : List D} {d : D} (ht : t E S = .ok ds S1) (hl : ds.length = k) (h : f ds S1 = .ok d S2) : mN (mClX k f) t E S = .ok d S2 := by
  unfold mN mClX; rw [ht, bind_ok, if_pos hl, h]
theorem clx_exc {k : Nat} {f : List D → Sto → Rs D} {t : En → Sto → Rs (List D)} {E : En} {S S1 S2 : Sto} {ds : List D} {c : Str} (ht : t E S = .ok ds S1) (hl : ds.length = k) (h : f ds S1 = .exc c [] S2) : mN (mClX k f) t E S = .exc c [] S2 := by
  unfold mN mClX; rw [ht, bind_ok, if_pos hl, h]
def doneD (N : Nest) (n : Nat) : D := .tup [.tup ((pN N n).map .int), stmD (stN N n)]
theorem done_ok (hlow : Low S) (g : GN N) (hn : n < cnt N) : m_done_at [nestD N, .int (n : Nat)] S = .ok (doneD N n) S := by
  have e1 := instance_ok hlow g hn
  refine def_rt (d := doneD N n) (S1 := S) (seq_ok (asg_ok (clx_ok rfl rfl e1) rfl) (ret_ok ?_)) (gc_same rfl)
  have hix : opIx (bodD N.body) (.int (n % N.body.length : Nat)) S = .ok (stmD (stN N n)) S := by
    have hlt : n % N.body.length < N.body.length := Nat.mod_lt _ g.b1
    show (match atI (N.body.map stmD) (n % N.body.length : Nat) with | some d => Rs.ok d S | none => .bad) = _
    rw [atI_nat (by simpa using hlt), List.getElem?_map, stN_get g]; rfl
  exact tup_ok (cons_ok rfl (cons_ok (m2_ok (m2_ok rfl rfl rfl) rfl hix) rfl)) (by simp)
theorem exc_asg {m : En → Sto → Rs D} {g : D → En → Sto → Rs En} {E : En} {S S1 : Sto} {c : Str} (h : m E S = .exc c [] S1) : sAsg m g E S = .exc c [] S1 := by
  unfold sAsg; rw [h]; rfl
theorem exc_seq {a b : En → Sto → Rs Fl} {E : En} {S S1 : Sto} {c : Str} (h : a E S = .exc c [] S1) : sSeq a b E S = .exc c [] S1 := by
  unfold sSeq; rw [h]; rfl
theorem exc_def {k : Nat} {mb : En → Sto → Rs Fl} {ds : List D} {S S1 : Sto} {c : Str} (h : mb (startE k ds) S = .exc c [] S1) : mDef k mb ds S = .exc c [] S1 := by
  unfold mDef; rw [h]; rfl
theorem done_no {x : D} (hlow : Low S) (g : GN N) (hx : m_is_whole [x, .int 0, .int ((cnt N : Nat) - 1)] S = .ok (.bl false) S) : m_done_at [nestD N, x] S = .exc "NoInstance" [] S :=
  exc_def (exc_seq (exc_asg (clx_exc rfl rfl (instance_no hlow g hx))))
/-! ### what is written, what is read -/
def wrN (N : Nest) (n : Nat) : Cell := cellAt N.loops (pN N n) (stN N n).t (stN N n).ps
def atC (ls : List NLoop) (p : List Int) : Val → Cell
  | .at t ps => cellAt ls p t ps
  | _ => ("", [])
def rdN (N : Nest) (n : Nat) : List Cell := (ats (stN N n).v).map (atC N.loops (pN N n)) ++ if (stN N n).w = "add" then [wrN N n] else []
theorem pN_len : (pN N n).length = N.loops.length := pt_len ..
theorem cell_low {k : Nat} {c : Cell} : lowD k (cellD c) = true := by
  show (true && (lowDs k (c.2.map .int) && true)) = true
  rw [lowDs_ints]; rfl
theorem writes_ok (hlow : Low S) (g : GN N) (hn : n < cnt N) : m_writes_of [nestD N, .int (n : Nat)] S = .ok (cellD (wrN N n)) S := by
  have e1 := done_ok hlow g hn
  have gt := g.st _ (stN_mem (n := n) g)
  have e2 := cell_of_ok (t := (stN N n).t) (ps := (stN N n).ps) hlow (pN_len (n := n)) g.nd (by have := g.ll; omega) (by have := gt.few; omega) gt.gs
  refine def_rt (d := cellD (wrN N n)) (S1 := S) (seq_ok (asg_ok (clx_ok rfl rfl e1) rfl) (ret_ok ?_)) (gc_same rfl)
  exact call_ok rfl rfl e2
theorem writes_no {x : D} (hlow : Low S) (g : GN N) (hx : m_is_whole [x, .int 0, .int ((cnt N : Nat) - 1)] S = .ok (.bl false) S) : m_writes_of [nestD N, x] S = .exc "NoInstance" [] S :=
  exc_def (exc_seq (exc_asg (clx_exc rfl rfl (done_no hlow g hx))))
theorem reads_no {x : D} (hlow : Low S) (g : GN N) (hx : m_is_whole [x, .int 0, .int ((cnt N : Nat) - 1)] S = .ok (.bl false) S) : m_reads_of [nestD N, x] S = .exc "NoInstance" [] S :=
  exc_def (exc_seq (exc_asg (clx_exc rfl rfl (done_no hlow g hx))))
theorem ats_at : ∀ {v : Val} {u : Val}, u ∈ ats v → ∃ t ps, u = .at t ps
  | .num _, u, h => by cases h
  | .lop _, u, h => by cases h
  | .at t ps, u, h => by
    simp [ats] at h
    exact ⟨t, ps, h⟩
  | .two _ a b, u, h => by
    rcases List.mem_append.mp (show u ∈ ats a ++ ats b from h) with h | h
    · exact ats_at h
    · exact ats_at h
theorem tup_lst {S : Sto} {n : Nat} {ds : List D} (h : S[n]? = some (.lst ds)) : fTup [.ref n] S = .ok (.tup ds) S := by
  unfold fTup
  simp only [h]
theorem add_lst {S : Sto} {n m : Nat} {ds es : List D} (h : S[n]? = some (.lst ds)) (h2 : S[m]? = some (.lst es)) (hl : ds.length + es.length ≤ 1000000) : opAdd (.ref n) (.ref m) S = .ok (.ref S.length) (S ++ [.lst (ds ++ es)]) := by
  have hz : (1000000 : Nat) ≤ sizeLine := by decide
  unfold opAdd
  simp only [h, h2]
  rw [if_pos (by omega)]
theorem reads_ok (hlow : Low S) (g : GN N) (hn : n < cnt N) : m_reads_of [nestD N, .int (n : Nat)] S = .ok (.tup ((rdN N n).map cellD)) S := by
  have e1 := done_ok hlow g hn
  have gt := g.st _ (stN_mem (n := n) g)
  have hla : (ats (stN N n).v).length ≤ 1024 := Nat.le_trans (ats_len _) (Nat.pow_le_pow_right (by decide) (by have := gt.dp; omega : dpt (stN N n).v ≤ 10))
  suffices h : Ok (m_reads_of [nestD N, .int (n : Nat)] S) (fun d S' => d = .tup ((rdN N n).map cellD) ∧ S' = S) by
    obtain ⟨d, S', e, rfl, rfl⟩ := h.get
    exact e
  unfold m_reads_of b_reads_of
  refine ok_mdef (ws_seq (ws_asg (Ok.of (clx_ok rfl rfl e1) (Ok.of (a := [some (nestD N), some (.int (n : Nat)), none, some (.tup ((pN N n).map .int)), some (.str (stN N n).w), some (.str (stN N n).t), some (plcD (stN N n).ps), some (valD (stN N n).v), none]) (S := S) rfl ?_))))
  obtain ⟨d, S1, q, nl⟩ := (ats_ok (v := (stN N n).v) (f := 8) (S := S) (by have := gt.dp; omega) (by have := gt.dp; omega) gt.gw).get
  obtain ⟨r, rfl, gr, lr, T, rfl, hc⟩ := nl.get
  have lowT := low_app hlow hc
  have eC : mComp (iA (mN (mCl 1 (m_ats_of 8)) (aCons (mV 7) (aNil)))) [8] (gN 8) (tYesM) (mN (mCl 4 m_cell_of) (aCons (mV 0) (aCons (m2 opIx (mV 8) (mC (.int 1))) (aCons (m2 opIx (mV 8) (mC (.int 2))) (aCons (mV 3) (aNil)))))) [some (nestD N), some (.int (n : Nat)), none, some (.tup ((pN N n).map .int)), some (.str (stN N n).w), some (.str (stN N n).t), some (plcD (stN N n).ps), some (valD (stN N n).v), none] S = .ok ((ats (stN N n).v).map fun u => cellD (atC N.loops (pN N n) u)) (S ++ T) := by
    refine mComp_all (gd := fun S => S[r]? = some (.lst ((ats (stN N n).v).map valD))) valD _ ?_ gr (fun u hu => ?_) (by omega)
    · show (mN (mCl 1 (m_ats_of 8)) (aCons (mV 7) (aNil)) _ S).bind aiOf = _
      have ec : mN (mCl 1 (m_ats_of 8)) (aCons (mV 7) (aNil)) [some (nestD N), some (.int (n : Nat)), none, some (.tup ((pN N n).map .int)), some (.str (stN N n).w), some (.str (stN N n).t), some (plcD (stN N n).ps), some (valD (stN N n).v), none] S = .ok (.ref r) (S ++ T) := call_ok rfl rfl q
      rw [ec, bind_ok]
      unfold aiOf
      simp only [gr]
    · obtain ⟨t, ps, rfl⟩ := ats_at hu
      obtain ⟨h1, h2⟩ := gt.at' t ps hu
      have e2 := cell_of_ok (t := t) (ps := ps) lowT (pN_len (n := n)) g.nd (by have := g.ll; omega) (by omega) h2
      refine body_yes (E1 := [some (nestD N), some (.int (n : Nat)), none, some (.tup ((pN N n).map .int)), some (.str (stN N n).w), some (.str (stN N n).t), some (plcD (stN N n).ps), some (valD (stN N n).v), some (valD (.at t ps))]) rfl ?_
      exact call_ok (cons_ok rfl (cons_ok rfl (cons_ok rfl (cons_ok rfl rfl)))) rfl e2
  refine ws_seq (ws_asg (Ok.of (ad_ok eC) (Ok.of (a := [some (nestD N), some (.int (n : Nat)), some (.ref (S ++ T).length), some (.tup ((pN N n).map .int)), some (.str (stN N n).w), some (.str (stN N n).t), some (plcD (stN N n).ps), some (valD (stN N n).v), none]) rfl ?_)))
  have lowC : lowS 0 [O.lst ((ats (stN N n).v).map fun u => cellD (atC N.loops (pN N n) u))] = true := cl_cons (lowDs_map fun _ _ => cell_low) rfl
  have low2 := low_app lowT lowC
  have e3 := cell_of_ok (t := (stN N n).t) (ps := (stN N n).ps) low2 (pN_len (n := n)) g.nd (by have := g.ll; omega) (by have := gt.few; omega) gt.gs
  have hg : (S ++ T ++ [O.lst ((ats (stN N n).v).map fun u => cellD (atC N.loops (pN N n) u))])[(S ++ T).length]? = some (.lst ((ats (stN N n).v).map fun u => cellD (atC N.loops (pN N n) u))) := get_end ..
  have eIf : mIfE (tB (m2 opEq (mV 4) (mC (.str "add")))) (mLst (aCons (mN (mCl 4 m_cell_of) (aCons (mV 0) (aCons (mV 5) (aCons (mV 6) (aCons (mV 3) (aNil)))))) (aNil))) (mLst (aNil)) [some (nestD N), some (.int (n : Nat)), some (.ref (S ++ T).length), some (.tup ((pN N n).map .int)), some (.str (stN N n).w), some (.str (stN N n).t), some (plcD (stN N n).ps), some (valD (stN N n).v), none] (S ++ T ++ [O.lst ((ats (stN N n).v).map fun u => cellD (atC N.loops (pN N n) u))]) = .ok (.ref (S ++ T ++ [O.lst ((ats (stN N n).v).map fun u => cellD (atC N.loops (pN N n) u))]).length) (S ++ T ++ [O.lst ((ats (stN N n).v).map fun u => cellD (atC N.loops (pN N n) u))] ++ [.lst ((if (stN N n).w = "add" then [wrN N n] else []).map cellD)]) := by
    have eq : tB (m2 opEq (mV 4) (mC (.str "add"))) [some (nestD N), some (.int (n : Nat)), some (.ref (S ++ T).length), some (.tup ((pN N n).map .int)), some (.str (stN N n).w), some (.str (stN N n).t), some (plcD (stN N n).ps), some (valD (stN N n).v), none] (S ++ T ++ [O.lst ((ats (stN N n).v).map fun u => cellD (atC N.loops (pN N n) u))]) = .ok (decide ((stN N n).w = "add")) (S ++ T ++ [O.lst ((ats (stN N n).v).map fun u => cellD (atC N.loops (pN N n) u))]) := tB_ok (m2_ok rfl rfl eq_str)
    unfold mIfE
    rw [eq, bind_ok]
    by_cases hw : (stN N n).w = "add"
    · rw [decide_eq_true hw, if_pos rfl, if_pos hw]
      exact lst_ok (cons_ok (call_ok rfl rfl e3) rfl) (by simp)
    · rw [decide_eq_false hw, if_neg (by simp), if_neg hw]
      exact lst_ok (ds := []) rfl (by simp)
  have hlen : (((ats (stN N n).v).map fun u => cellD (atC N.loops (pN N n) u))).length + ((if (stN N n).w = "add" then [wrN N n] else []).map cellD).length ≤ 1000000 := by
    rw [List.length_map, List.length_map]
    have : (if (stN N n).w = "add" then [wrN N n] else []).length ≤ 1 := by split <;> simp
    omega
  have hadd := add_lst (get_old (o := .lst ((if (stN N n).w = "add" then [wrN N n] else []).map cellD)) hg) (get_end ..) hlen
  refine ws_ret (Ok.of (n1_ok (m2_ok rfl eIf hadd) (tup_lst (get_end ..))) ?_)
  have er : ((ats (stN N n).v).map fun u => cellD (atC N.loops (pN N n) u)) ++ (if (stN N n).w = "add" then [wrN N n] else []).map cellD = (rdN N n).map cellD := by
    unfold rdN
    rw [List.map_append, List.map_map]; rfl
  rw [er]
  simp only [List.append_assoc]
  exact Ok.of (gc_cut (lowDs_map fun _ _ => cell_low) hlow) ⟨rfl, rfl⟩
end
end K02
end M

namespace M
namespace K02
open PySem L2
/-! ### draws -/
def townK (c : Int) (r : Nat) : List (Key × D) := [(.inr "count", .int c), (.inr "rests", .ref r)]
/-- the draws' table at t, its rests at r, c draws so far -/
structure Town (S : Sto) (t r c : Nat) : Prop where
  ne : t ≠ r
  low : Low S
  tw : S[t]? = some (.dk (townK c r))
  ex : ∃ rs : List (Key × D), S[r]? = some (.dk rs) ∧ (∀ kv ∈ rs, ∃ i, kv.2 = .int i) ∧ rs.length ≤ c
theorem Town.snoc {S : Sto} {t r c : Nat} {o : O} (h : Town S t r c) (ho : lowO (S.length + 1) o = true) : Town (S ++ [o]) t r c := by
  obtain ⟨rs, h2, h3⟩ := h.ex
  exact ⟨h.ne, h.low.snoc ho, get_old h.tw, rs, get_old h2, h3⟩
theorem getK_int {rs : List (Key × D)} (h : ∀ kv ∈ rs, ∃ i, kv.2 = .int i) {k : Key} {d : D} (e : getK rs k = some d) : ∃ i, d = .int i := by
  unfold getK at e
  cases hf : rs.find? fun kv => decide (kv.1 = k) with
  | none => rw [hf] at e; cases e
  | some kv =>
    rw [hf] at e
    obtain ⟨i, hi⟩ := h kv (List.mem_of_find?_eq_some hf)
    exact ⟨i, by rw [← Option.some.inj e]; exact hi⟩
theorem setK_ints {rs : List (Key × D)} (h : ∀ kv ∈ rs, ∃ i, kv.2 = .int i) (k : Key) (j : Int) : ∀ kv ∈ setK rs k (.int j), ∃ i, kv.2 = .int i := by
  intro kv hk
  unfold setK at hk
  split at hk
  · obtain ⟨q, hq, rfl⟩ := List.mem_map.mp hk
    by_cases hc : q.1 = k
    · rw [if_pos hc]; exact ⟨j, rfl⟩
    · rw [if_neg hc]; exact h q hq
  · rcases List.mem_append.mp hk with hk | hk
    · exact h kv hk
    · rw [List.mem_singleton.mp hk]; exact ⟨j, rfl⟩
theorem lowDs_vals {n : Nat} {rs : List (Key × D)} (h : ∀ kv ∈ rs, ∃ i, kv.2 = .int i) : lowDs n (rs.map (·.2)) = true := by
  refine lowDs_all fun d hd => ?_
  obtain ⟨kv, hk, rfl⟩ := List.mem_map.mp hd
  obtain ⟨i, hi⟩ := h kv hk
  rw [hi]; rfl
theorem get_count {c : Int} {r : Nat} : getK (townK c r) (.inr "count") = some (.int c) := by
  unfold getK townK
  rw [List.find?_cons]
  rw [decide_eq_true rfl]
  rfl
theorem count_rests : ¬ ((.inr "count" : Key) = .inr "rests") := by decide
theorem get_rests {c : Int} {r : Nat} : getK (townK c r) (.inr "rests") = some (.ref r) := by
  unfold getK townK
  rw [List.find?_cons, decide_eq_false count_rests, List.find?_cons, decide_eq_true rfl]
  rfl
theorem set_count {c e : Int} {r : Nat} : setK (townK c r) (.inr "count") (.int e) = townK e r := by
  unfold setK townK
  rw [List.any_cons, decide_eq_true rfl, Bool.true_or, if_pos rfl, List.map_cons, List.map_cons, if_pos rfl, if_neg (fun z => count_rests z.symm)]
  rfl
theorem atI_mod {ns : List Int} {a : Int} (h : ns ≠ []) : ∃ x, atI ns (a % (ns.length : Nat)) = some x := by
  have hl : 0 < ns.length := List.length_pos_iff.mpr h
  have h1 : 0 ≤ a % (ns.length : Int) := Int.emod_nonneg _ (by omega)
  have h2 : a % (ns.length : Int) < ns.length := Int.emod_lt_of_pos _ (by omega)
  obtain ⟨k, hk⟩ : ∃ k : Nat, a % (ns.length : Int) = k := ⟨(a % (ns.length : Int)).toNat, by omega⟩
  rw [hk, atI_nat (by omega)]
  exact ⟨ns[k]'(by omega), by simp⟩
theorem draw_ok {S : Sto} {t r c : Nat} {ns : List Int} {many : Int} (h : Town S t r c) (hc : c ≤ 1000000) (h0 : 0 < many) (h1 : many < 1000000) :
    ∃ v S', m__law_draw [.rl ns, .ref t, .int many] S = .ok (.int v) S' ∧ 0 ≤ v ∧ v < many ∧ Town S' t r (c + 1) ∧ S'.length = S.length ∧ ∀ i, i ≠ t → i ≠ r → S'[i]? = S[i]? := by
  obtain ⟨rs, hr, hrs, hrl⟩ := h.ex
  have ht := h.tw
  have htl := (List.getElem?_eq_some_iff.mp ht).1
  have hrl' := (List.getElem?_eq_some_iff.mp hr).1
  have hz : (1000001 : Nat) < sizeLine := by decide
  have s1 : sAsg (m2 opAdd (m2 opIx (mV 1) (mC (.str "count"))) (mC (.int 1))) (gS fSet (mV 1) (mC (.str "count"))) [some (.rl ns), some (.ref t), some (.int many), none, none, none] S = .ok (.nx [some (.rl ns), some (.ref t), some (.int many), none, none, none]) (S.set t (.dk (townK ((c : Int) + 1) r))) := by
    refine asg_ok (d := .int ((c : Int) + 1)) (S1 := S) (m2_ok (m2_ok rfl rfl (ix_dk ht rfl get_count)) rfl rfl) (gS_ok rfl rfl ?_)
    rw [set_dk ht rfl (by show 2 < sizeLine; omega), set_count]
  have ht2 : (S.set t (.dk (townK ((c : Int) + 1) r)))[t]? = some (.dk (townK ((c : Int) + 1) r)) := by simp [htl]
  have hr2 : (S.set t (.dk (townK ((c : Int) + 1) r)))[r]? = some (.dk rs) := by rw [List.getElem?_set_ne h.ne]; exact hr
  have low2 : Low (S.set t (.dk (townK ((c : Int) + 1) r))) := h.low.set (by
    show (true && (decide (r < S.length) && true)) = true
    rw [decide_eq_true hrl']; rfl)
  have len2 : (S.set t (.dk (townK ((c : Int) + 1) r))).length = S.length := List.length_set
  have fr2 : ∀ i, i ≠ t → i ≠ r → (S.set t (.dk (townK ((c : Int) + 1) r)))[i]? = S[i]? := fun i hi _ => List.getElem?_set_ne (Ne.symm hi)
  generalize S.set t (.dk (townK ((c : Int) + 1) r)) = S2 at s1 ht2 hr2 low2 len2 fr2
  -- where in the script
  obtain ⟨a, ha, hget⟩ : ∃ a : Int, mIfE (tV (mV 0)) (m2 opMod (m2 opIx (mV 1) (mC (.str "count"))) (mN fLen (aCons (mV 0) (aNil)))) (mC (.int 0)) [some (.rl ns), some (.ref t), some (.int many), none, none, none] S2 = .ok (.int a) S2 ∧ ∃ x : Int, mIfE (tV (mV 0)) (m2 opIx (mV 0) (mV 3)) (mC (.int 0)) [some (.rl ns), some (.ref t), some (.int many), some (.int a), none, none] S2 = .ok (.int x) S2 := by
    have t1 : ∀ e4 : Option D, tV (mV 0) [some (.rl ns), some (.ref t), some (.int many), e4, none, none] S2 = .ok (!ns.isEmpty) S2 := fun _ => rfl
    by_cases hn : ns = []
    · subst hn
      exact ⟨0, by unfold mIfE; rw [t1]; rfl, 0, by unfold mIfE; rw [t1]; rfl⟩
    · have hne : (!ns.isEmpty) = true := by simpa using hn
      obtain ⟨x, hx⟩ := atI_mod (a := (c : Int) + 1) hn
      have hl : 0 < ns.length := List.length_pos_iff.mpr hn
      refine ⟨((c : Int) + 1) % (ns.length : Nat), ?_, x, ?_⟩
      · unfold mIfE
        rw [t1, bind_ok, if_pos hne]
        refine m2_ok (m2_ok rfl rfl (ix_dk ht2 rfl get_count)) (S2 := S2) (y := .int (ns.length : Nat)) rfl ?_
        rw [mod_int, if_pos (by omega)]
      · unfold mIfE
        rw [t1, bind_ok, if_pos hne]
        refine m2_ok (S2 := S2) rfl rfl ?_
        rw [ix_rl, hx]
  obtain ⟨x, hx⟩ := hget
  obtain ⟨rest, hrest⟩ : ∃ rest : Int, mGet2 (m2 opIx (mV 1) (mC (.str "rests"))) (mV 3) (mIfE (tV (mV 0)) (m2 opIx (mV 0) (mV 3)) (mC (.int 0))) [some (.rl ns), some (.ref t), some (.int many), some (.int a), none, none] S2 = .ok (.int rest) S2 := by
    have g1 : m2 opIx (mV 1) (mC (.str "rests")) [some (.rl ns), some (.ref t), some (.int many), some (.int a), none, none] S2 = .ok (.ref r) S2 := m2_ok rfl rfl (ix_dk ht2 rfl get_rests)
    have g2 : isDk S2 (.ref r) = true := by unfold isDk; simp only [hr2]
    have g3 : mV 3 [some (.rl ns), some (.ref t), some (.int many), some (.int a), none, none] S2 = .ok (.int a) S2 := rfl
    cases hg : getK rs (.inl a) with
    | none =>
      refine ⟨x, ?_⟩
      unfold mGet2
      rw [g1, bind_ok, if_pos g2, g3, bind_ok, hx, bind_ok]
      unfold fGet2
      simp only [hr2, key_int, hg, Option.getD_none]
    | some d =>
      obtain ⟨i, rfl⟩ := getK_int hrs hg
      refine ⟨i, ?_⟩
      unfold mGet2
      rw [g1, bind_ok, if_pos g2, g3, bind_ok, hx, bind_ok]
      unfold fGet2
      simp only [hr2, key_int, hg, Option.getD_some]
  have tge : tB (m2 opGe (mV 4) (m2 opPow (mC (.int 10)) (mC (.int 18)))) [some (.rl ns), some (.ref t), some (.int many), some (.int a), some (.int rest), none] S2 = .ok (decide ((10 : Int) ^ (18 : Int).toNat ≤ rest)) S2 := by
    refine tB_ok (m2_ok (y := .int ((10 : Int) ^ (18 : Int).toNat)) (S2 := S2) rfl (m2_ok rfl rfl ?_) rfl)
    rw [pow_int, if_pos (by decide)]
  unfold m__law_draw b__law_draw
  have eS : startE 6 [.rl ns, .ref t, .int many] = [some (.rl ns), some (.ref t), some (.int many), none, none, none] := rfl
  by_cases hb : (10 : Int) ^ (18 : Int).toNat ≤ rest
  · -- a rest is kept
    refine ⟨rest % many, S2.set r (.dk (setK rs (.inl a) (.int (rest / many)))), def_rt (S1 := S2.set r (.dk (setK rs (.inl a) (.int (rest / many))))) ?_ (gc_same (by rw [List.length_set]; exact len2)), Int.emod_nonneg _ (by omega), Int.emod_lt_of_pos _ h0, ?_, by rw [List.length_set]; exact len2, fun i hi hj => by rw [List.getElem?_set_ne (Ne.symm hj)]; exact fr2 i hi hj⟩
    · rw [eS]
      refine seq_ok s1 (seq_ok (asg_ok ha rfl) (seq_ok (asg_ok hrest rfl) (seq_rt (if_yes (S1 := S2) (by rw [← decide_eq_true hb]; exact tge) (seq_ok (S1 := S2.set r (.dk (setK rs (.inl a) (.int (rest / many))))) (asg_ok (d := .int (rest / many)) (S1 := S2) ?_ (gS_ok (S1 := S2) (S2 := S2) (m2_ok rfl rfl (ix_dk ht2 rfl get_rests)) rfl ?_)) (ret_ok ?_))))))
      · refine m2_ok rfl rfl ?_
        rw [fdiv_int, if_pos ⟨h0, by omega⟩]
      · rw [set_dk hr2 rfl (by omega)]
      · refine m2_ok rfl rfl ?_
        rw [mod_int, if_pos h0]
    · refine ⟨h.ne, low2.set (lowDs_vals (setK_ints hrs _ _)), by rw [List.getElem?_set_ne (Ne.symm h.ne)]; exact ht2, setK rs (.inl a) (.int (rest / many)), List.getElem?_set_self (by omega), setK_ints hrs _ _, ?_⟩
      have := setK_len rs (.inl a) (.int (rest / many))
      omega
  · have b1 : ∀ y m : Int, 0 < m → 0 ≤ y % m ∧ y % m < m := fun y m hm => ⟨Int.emod_nonneg _ (by omega), Int.emod_lt_of_pos _ hm⟩
    let n1 : Int := (rest + 104729 * ((c : Int) + 1)) % 4294967291
    let n2 : Int := n1 ^ (5 : Int).toNat % 4294967279
    have hn1 := b1 (rest + 104729 * ((c : Int) + 1)) 4294967291 (by decide)
    have hn2 := b1 (n1 ^ (5 : Int).toNat) 4294967279 (by decide)
    refine ⟨((n2 / 64 * 69621 + n2) % 4294967231 / 8) % many, S2, def_rt (S1 := S2) ?_ (gc_same len2), Int.emod_nonneg _ (by omega), Int.emod_lt_of_pos _ h0, ⟨h.ne, low2, ht2, rs, hr2, hrs, by omega⟩, len2, fr2⟩
    rw [eS]
    refine seq_ok s1 (seq_ok (asg_ok ha rfl) (seq_ok (asg_ok hrest rfl) (seq_ok (if_no (S1 := S2) (by rw [← decide_eq_false hb]; exact tge) rfl) (seq_ok (asg_ok (d := .int n1) (S1 := S2) ?_ rfl) (seq_ok (asg_ok (d := .int n2) (S1 := S2) ?_ rfl) (ret_ok ?_))))))
    · refine m2_ok (x := .int (rest + 104729 * ((c : Int) + 1))) (S1 := S2) (m2_ok (y := .int (104729 * ((c : Int) + 1))) (S2 := S2) rfl (m2_ok rfl (m2_ok rfl rfl (ix_dk ht2 rfl get_count)) ?_) rfl) rfl ?_
      · rw [mul_int, if_pos (Or.inl (by decide))]
      · rw [mod_int, if_pos (by decide)]
    · refine m2_ok (x := .int (n1 ^ (5 : Int).toNat)) (S1 := S2) (m2_ok rfl rfl ?_) rfl ?_
      · rw [pow_int, if_pos ⟨by decide, by decide, by
          have : n1 = (rest + 104729 * ((c : Int) + 1)) % 4294967291 := rfl
          omega⟩]
      · rw [mod_int, if_pos (by decide)]
    · refine m2_ok (x := .int ((n2 / 64 * 69621 + n2) % 4294967231 / 8)) (S1 := S2) (m2_ok (x := .int ((n2 / 64 * 69621 + n2) % 4294967231)) (S1 := S2) (m2_ok (x := .int (n2 / 64 * 69621 + n2)) (S1 := S2) (m2_ok (x := .int (n2 / 64 * 69621)) (S1 := S2) (m2_ok (x := .int (n2 / 64)) (S1 := S2) (m2_ok rfl rfl ?_) rfl ?_) rfl rfl) rfl ?_) rfl ?_) rfl ?_
      · rw [fdiv_int, if_pos (by decide)]
      · rw [mul_int, if_pos (Or.inr (by decide))]
      · rw [mod_int, if_pos (by decide)]
      · rw [fdiv_int, if_pos (by decide)]
      · rw [mod_int, if_pos h0]
/-! ### drawn traces: the draws' table stands behind the tables B -/
structure Rdy (B : Sto) (S : Sto) (c : Nat) : Prop where
  tn : Town S (B.length + 1) B.length c
  tb : ∀ i, i < B.length → S[i]? = B[i]?
theorem Rdy.snoc {B : Sto} {S : Sto} {c : Nat} {o : O} (h : Rdy B S c) (ho : lowO (S.length + 1) o = true) : Rdy B (S ++ [o]) c := ⟨h.tn.snoc ho, fun i hi => by
  have h1 := h.tb i hi
  rw [List.getElem?_eq_getElem hi] at h1 ⊢
  exact get_old h1⟩
theorem Rdy.low {B : Sto} {S : Sto} {c : Nat} (h : Rdy B S c) : Low S := h.tn.low
theorem draw_at {B : Sto} {S : Sto} {c : Nat} {ns : List Int} {many : Nat} (h : Rdy B S c) (hc : c ≤ 1000000) (h0 : 0 < many) (h1 : many < 1000000) :
    ∃ (v : Nat) (S' : Sto), m__law_draw [.rl ns, .ref (B.length + 1), .int (many : Nat)] S = .ok (.int (v : Nat)) S' ∧ v < many ∧ Rdy B S' (c + 1) ∧ S'.length = S.length ∧ ∀ i, B.length + 2 ≤ i → S'[i]? = S[i]? := by
  obtain ⟨v, S', e, h2, h3, h4, h5, h6⟩ := draw_ok (ns := ns) h.tn hc (many := (many : Nat)) (by omega) (by omega)
  obtain ⟨k, rfl⟩ : ∃ k : Nat, v = k := ⟨v.toNat, by omega⟩
  exact ⟨k, S', e, by omega, ⟨h4, fun i hi => by rw [h6 i (by omega) (by omega)]; exact h.tb i hi⟩, h5, fun i hi => h6 i (by omega) (by omega)⟩
theorem begun_ok {B : Sto} (hB : ∀ m, lowS m B = true) : ∃ S, m__law_begun [] B = .ok (.ref (B.length + 1)) S ∧ Rdy B S 0 ∧ S.length = B.length + 2 := by
  have g0 : (B ++ [O.dk [], .dk (townK 0 B.length)])[B.length]? = some (.dk []) := by simp
  have g1 : (B ++ [O.dk [], .dk (townK 0 B.length)])[B.length + 1]? = some (.dk (townK 0 B.length)) := by simp
  refine ⟨B ++ [.dk [], .dk (townK 0 B.length)], ?_, ⟨⟨by omega, ?_, g1, [], g0, (fun _ z => by cases z), Nat.le_refl _⟩, fun i hi => ?_⟩, by simp⟩
  · unfold m__law_begun b__law_begun
    refine def_rt (S1 := B ++ [.dk [], .dk (townK 0 B.length)]) (d := .ref (B.length + 1)) (ret_ok ?_) ?_
    · have e : dPairs [(mC (.str "count"), mC (.int 0)), (mC (.str "rests"), mDnew)] (startE 0 []) B = .ok [(.inr "count", .int 0), (.inr "rests", .ref B.length)] (B ++ [.dk []]) := rfl
      unfold mDisp
      rw [e, bind_ok, if_pos (by simp)]
      have : mergeD [] [((.inr "count" : Key), D.int 0), (.inr "rests", .ref B.length)] = townK 0 B.length := by
        show setK (setK [] (.inr "count") (.int 0)) (.inr "rests") (.ref B.length) = _
        have e1 : setK [] (.inr "count") (.int 0) = [((.inr "count" : Key), D.int 0)] := rfl
        rw [e1]
        unfold setK
        rw [if_neg]
        · rfl
        · rw [List.any_cons, decide_eq_false count_rests]; simp
      rw [this, List.length_append, List.append_assoc]
      rfl
    · unfold gc
      rw [if_neg]
      simp [lowD]
      omega
  · unfold Low
    refine List.all_eq_true.mpr fun o ho => ?_
    rcases List.mem_append.mp ho with ho | ho
    · exact List.all_eq_true.mp (hB _) o ho
    · have : o = .dk [] ∨ o = .dk (townK 0 B.length) := by simpa using ho
      rcases this with rfl | rfl
      · rfl
      · have : (B ++ [O.dk [], .dk (townK 0 B.length)]).length = B.length + 2 := by simp
        rw [this]
        show lowDs _ [.int 0, .ref B.length] = true
        simp [lowDs, lowD]
  · rw [List.getElem?_append_left hi]
theorem r1_at {t : En → Sto → Rs (List D)} {E : En} {S S1 : Sto} {n : Nat} (h : t E S = .ok [.int (n : Int)] S1) (hn : n ≤ 1000000) : (t E S).bind aiR1 = .ok ⟨rangeD 0 (n : Int), fun _ => True, none⟩ S1 := by
  rw [h, bind_ok]; exact r1_ok hn
theorem or_no {a b : En → Sto → Rs Bool} {E : En} {S S1 S2 : Sto} (h1 : a E S = .ok false S1) (h2 : b E S1 = .ok false S2) : tOrM a b E S = .ok false S2 := by
  unfold tOrM; rw [h1, bind_ok, if_neg (by simp)]; exact h2
theorem ne_tup2 {S : Sto} {a b c d : Int} : opNe (.tup [.int a, .int b]) (.tup [.int c, .int d]) S = .ok (.bl (!((a == c) && ((b == d) && true)))) S := rfl
theorem ne_self {S : Sto} {a b : Int} : opNe (.tup [.int a, .int b]) (.tup [.int a, .int b]) S = .ok (.bl false) S := by
  rw [ne_tup2]; simp
theorem gc_any {n : Nat} {d : D} {S : Sto} : ∃ S1, gc n d S = .ok d S1 := by
  unfold gc; split
  · exact ⟨_, rfl⟩
  · exact ⟨_, rfl⟩
end K02
end M

namespace M
namespace K02
open PySem L2
/-! ### the store while things are drawn -/
theorem Rdy.set {B S : Sto} {c i : Nat} {o : O} (h : Rdy B S c) (hi : B.length + 2 ≤ i) (ho : lowO S.length o = true) : Rdy B (S.set i o) c := by
  have t := h.tn
  refine ⟨⟨t.ne, t.low.set ho, ?_, ?_⟩, fun j hj => ?_⟩
  · rw [List.getElem?_set_ne (by omega)]; exact t.tw
  · obtain ⟨rs, h1, h2, h3⟩ := t.ex
    exact ⟨rs, by rw [List.getElem?_set_ne (by omega)]; exact h1, h2, h3⟩
  · rw [List.getElem?_set_ne (by omega)]; exact h.tb j hj
theorem Rdy.two {B S : Sto} {c : Nat} (h : Rdy B S c) : B.length + 2 ≤ S.length := by
  have := (List.getElem?_eq_some_iff.mp h.tn.tw).1
  omega
/-! ### the values of a loop, one by one -/
theorem lv_get {l : NLoop} {k : Nat} (h : k < (lvals l).length) : (lvals l)[k]? = some (l.lo + (k : Nat) * l.st) := by
  unfold lvals rgI
  rw [lvals_len] at h
  rw [List.getElem?_map, List.getElem?_range h]; rfl
theorem lv_lt {l : NLoop} (g : GL l) {k : Nat} : l.lo + (k : Nat) * l.st < l.hi ↔ k < (lvals l).length := by
  have hd := g.d
  have hb := g.b
  constructor
  · intro h
    rw [lvals_len]
    unfold rgN
    rw [if_pos hb]
    have h1 : (k : Int) ≤ (l.hi - l.lo - 1) / l.st := (Int.le_ediv_iff_mul_le (by omega)).mpr (by omega)
    omega
  · intro h
    have := (g.mem (List.mem_of_getElem? (lv_get h))).2
    exact this
section
variable {S : Sto} {l : NLoop}
theorem lv_loop (g : GL l) : ∀ (f k : Nat), k ≤ (lvals l).length → (lvals l).length - k < f →
    whileF (tB (m2 opLt (mV 2) (m2 opIx (mV 0) (mC (.int 2))))) (w__law_loop_values_2) f [some (lopD l), some (.ref S.length), some (.int (l.lo + (k : Nat) * l.st))] (S ++ [.lst (((lvals l).take k).map .int)])
    = .ok (.nx [some (lopD l), some (.ref S.length), some (.int (l.lo + ((lvals l).length : Nat) * l.st))]) (S ++ [.lst ((lvals l).map .int)])
  | 0, k, _, h => by omega
  | f + 1, k, hk, hf => by
    have hz : (1000000 : Nat) ≤ sizeLine := by decide
    have a1 : tB (m2 opLt (mV 2) (m2 opIx (mV 0) (mC (.int 2)))) [some (lopD l), some (.ref S.length), some (.int (l.lo + (k : Nat) * l.st))] (S ++ [.lst (((lvals l).take k).map .int)]) = .ok (decide (l.lo + (k : Nat) * l.st < l.hi)) (S ++ [.lst (((lvals l).take k).map .int)]) := rfl
    rw [whileF, a1, bind_ok]
    by_cases h : k < (lvals l).length
    · rw [decide_eq_true ((lv_lt g).mpr h), if_pos rfl]
      have e1 : fAppend (.ref S.length) [.int (l.lo + (k : Nat) * l.st)] (S ++ [.lst (((lvals l).take k).map .int)]) = .ok .non (S ++ [.lst (((lvals l).take (k + 1)).map .int)]) := by
        unfold fAppend
        simp only [get_end]
        rw [if_pos (by have := g.few; simp; omega), set_end, take_succ_get (lv_get h), List.map_append]
        rfl
      have e2 : w__law_loop_values_2 [some (lopD l), some (.ref S.length), some (.int (l.lo + (k : Nat) * l.st))] (S ++ [.lst (((lvals l).take k).map .int)]) = .ok (.nx [some (lopD l), some (.ref S.length), some (.int (l.lo + ((k + 1 : Nat) : Int) * l.st))]) (S ++ [.lst (((lvals l).take (k + 1)).map .int)]) := by
        unfold w__law_loop_values_2
        refine seq_ok (expr_ok (meth2_ok rfl (get_end ..) rfl e1)) (asg_ok (d := .int (l.lo + ((k + 1 : Nat) : Int) * l.st)) ?_ rfl)
        have : l.lo + ((k + 1 : Nat) : Int) * l.st = l.lo + (k : Nat) * l.st + l.st := by
          rw [Int.natCast_add, Int.add_mul]; omega
        rw [this]; rfl
      rw [e2, bind_ok]
      exact lv_loop g f (k + 1) h (by omega)
    · have hk2 : k = (lvals l).length := by omega
      subst hk2
      rw [decide_eq_false (fun z => h ((lv_lt g).mp z)), if_neg (by simp), List.take_length]
theorem loop_values_ok (g : GL l) (hn : (lvals l).length < 100) : m__law_loop_values [lopD l] S = .ok (.ref S.length) (S ++ [.lst ((lvals l).map .int)]) := by
  refine def_rt (d := .ref S.length) (S1 := S ++ [.lst ((lvals l).map .int)]) ?_ ?_
  · have e0 : sPar 1 2 (aCons (mLst (aNil)) (aCons (m2 opIx (mV 0) (mC (.int 1))) (aNil))) (startE 3 [lopD l]) S = .ok (.nx [some (lopD l), some (.ref S.length), some (.int (l.lo + ((0 : Nat) : Int) * l.st))]) (S ++ [.lst []]) := by
      have e : aCons (mLst (aNil)) (aCons (m2 opIx (mV 0) (mC (.int 1))) (aNil)) (startE 3 [lopD l]) S = .ok [.ref S.length, .int l.lo] (S ++ [.lst []]) := cons_ok (lst_ok (ds := []) rfl (by decide)) rfl
      unfold sPar
      rw [e]
      have : l.lo + ((0 : Nat) : Int) * l.st = l.lo := by simp
      rw [this]; rfl
    exact seq_ok e0 (seq_ok (lv_loop (S := S) g 100 0 (Nat.zero_le _) (by omega)) (ret_ok rfl))
  · unfold gc
    have : lowD S.length (.ref S.length) = false := by simp [lowD]
    rw [this]; rfl
end
/-! ### the least and the greatest of a sum -/
def facOf (kvs : List (Str × Int)) (x : Str) : Option Int := (kvs.find? fun f => decide (f.1 = x)).map (·.2)
def first (l : NLoop) : Int := l.lo
def last (l : NLoop) : Int := l.lo + ((lvals l).length - 1 : Nat) * l.st
def lowT (kvs : List (Str × Int)) (l : NLoop) : Int := match facOf kvs l.x with
  | some f => min (f * first l) (f * last l)
  | none => 0
def higT (kvs : List (Str × Int)) (l : NLoop) : Int := match facOf kvs l.x with
  | some f => max (f * first l) (f * last l)
  | none => 0
def lowS' (kvs : List (Str × Int)) (ls : List NLoop) : Int := (ls.map (lowT kvs)).sum
def higS (kvs : List (Str × Int)) (ls : List NLoop) : Int := (ls.map (higT kvs)).sum
end K02
end M

namespace M
namespace K02
open PySem L2
/-! ### factors -/
def facK (kvs : List (Str × Int)) : List (Key × D) := kvs.map fun f => (.inr f.1, .int f.2)
def setF (kvs : List (Str × Int)) (x : Str) (f : Int) : List (Str × Int) := if (kvs.any fun q => decide (q.1 = x)) = true then kvs.map (fun q => if q.1 = x then (q.1, f) else q) else kvs ++ [(x, f)]
theorem facK_set {kvs : List (Str × Int)} {x : Str} {f : Int} : setK (facK kvs) (.inr x) (.int f) = facK (setF kvs x f) := by
  unfold setK setF facK
  have e : ((kvs.map fun f => ((.inr f.1 : Key), D.int f.2)).any fun kv => decide (kv.1 = .inr x)) = kvs.any fun q => decide (q.1 = x) := by
    rw [List.any_map]
    congr 1
    funext q
    simp
  rw [e]
  split
  · rw [List.map_map, List.map_map]
    congr 1
    funext q
    simp only [Function.comp]
    by_cases h : q.1 = x
    · rw [if_pos (by rw [h]), if_pos h]
    · rw [if_neg (fun z => h (Sum.inr.inj z)), if_neg h]
  · rw [List.map_append]; rfl
theorem facK_get {kvs : List (Str × Int)} {x : Str} : getK (facK kvs) (.inr x) = (facOf kvs x).map .int := by
  unfold getK facK facOf
  rw [List.find?_map]
  have e1 : ((fun kv : Key × D => decide (kv.1 = Sum.inr x)) ∘ fun f : Str × Int => (Sum.inr f.1, D.int f.2)) = fun f => decide (f.1 = x) := by
    funext z
    simp
  rw [e1, Option.map_map, Option.map_map]
  rfl
structure GF (ls : List NLoop) (kvs : List (Str × Int)) : Prop where
  nd : (kvs.map (·.1)).Nodup
  fac : ∀ q ∈ kvs, q.1 ∈ ls.map (·.x) ∧ (q.2 = 1 ∨ q.2 = -1)
theorem setF_len {kvs : List (Str × Int)} {x : Str} {f : Int} : (setF kvs x f).length ≤ kvs.length + 1 := by
  unfold setF; split <;> simp
theorem GF.set {ls : List NLoop} {kvs : List (Str × Int)} {x : Str} {f : Int} (h : GF ls kvs) (hx : x ∈ ls.map (·.x)) (hf : f = 1 ∨ f = -1) : GF ls (setF kvs x f) := by
  unfold setF
  split
  · have e : (kvs.map fun q => if q.1 = x then (q.1, f) else q).map (·.1) = kvs.map (·.1) := by
      rw [List.map_map]
      congr 1
      funext q
      simp only [Function.comp]
      split <;> rfl
    refine ⟨by rw [e]; exact h.nd, fun q hq => ?_⟩
    obtain ⟨r, hr, rfl⟩ := List.mem_map.mp hq
    split
    · exact ⟨(h.fac r hr).1, hf⟩
    · exact h.fac r hr
  · rename_i hno
    refine ⟨?_, fun q hq => ?_⟩
    · rw [List.map_append, List.nodup_append]
      refine ⟨h.nd, by simp, fun a ha b hb z => ?_⟩
      simp at hb
      subst hb z
      obtain ⟨r, hr, e⟩ := List.mem_map.mp ha
      exact hno (List.any_eq_true.mpr ⟨r, hr, decide_eq_true e⟩)
    · rcases List.mem_append.mp hq with hq | hq
      · exact h.fac q hq
      · simp at hq
        subst hq
        exact ⟨hx, hf⟩
theorem fac_low' {n : Nat} {kvs : List (Str × Int)} : lowO n (.dk (facK kvs)) = true := by
  show lowDs n ((facK kvs).map (·.2)) = true
  unfold facK
  rw [List.map_map]
  exact lowDs_map fun _ _ => rfl
/-- the factors in order -/
def facP (q : Str × Int) : PyData := .tuple [.str q.1, .int q.2]
def srtF (kvs : List (Str × Int)) : List (Str × Int) := kvs.mergeSort (PySem.W.dataLe false facP)
theorem sortBy_map {α β : Type} (f : α → β) (xs : List α) (ks : List PyData) : sortBy (xs.map f) ks = (sortBy xs ks).map f := by
  unfold sortBy
  rw [List.map_map]
  have e : (xs.map f).zip ks = (xs.zip ks).map fun z => (f z.1, z.2) := by
    rw [List.zip_map_left]; rfl
  rw [e]
  have e2 := List.map_mergeSort (r := PySem.W.dataLe false (fun z : α × PyData => z.2)) (s := PySem.W.dataLe false (fun z : β × PyData => z.2)) (f := fun z => (f z.1, z.2)) (l := xs.zip ks) (fun _ _ _ _ => rfl)
  rw [← e2, List.map_map]
  rfl
theorem sortBy_key {α : Type} (k : α → PyData) (xs : List α) : sortBy xs (xs.map k) = xs.mergeSort (PySem.W.dataLe false k) := by
  unfold sortBy
  have e : xs.zip (xs.map k) = xs.map fun x => (x, k x) := by
    induction xs with
    | nil => rfl
    | cons x r ih => rw [List.map_cons, List.zip_cons_cons, List.map_cons, ih]
  rw [e]
  have e2 := List.map_mergeSort (r := PySem.W.dataLe false k) (s := PySem.W.dataLe false (fun z : α × PyData => z.2)) (f := fun x => (x, k x)) (l := xs) (fun _ _ _ _ => rfl)
  rw [← e2, List.map_map]
  have : ((fun z : α × PyData => z.1) ∘ fun x => (x, k x)) = id := by funext x; rfl
  rw [this, List.map_id]
theorem keyPs_map {α : Type} {f : α → D} {k : α → PyData} {xs : List α} (h : ∀ x ∈ xs, keyP (f x) = some (k x)) : keyPs (xs.map f) = some (xs.map k) := by
  induction xs with
  | nil => rfl
  | cons x r ih =>
    have h1 := h x (List.mem_cons_self ..)
    have h2 := ih fun y hy => h y (List.mem_cons_of_mem _ hy)
    unfold keyPs keyP at *
    rw [List.map_cons, toPysW, h1, h2]; rfl
theorem sortOk_map {α : Type} {k : α → PyData} {xs : List α} (h1 : ∀ x ∈ xs, ∀ y ∈ xs, PySem.W.alike (k x) (k y) = true) (h2 : ∀ x ∈ xs, isTup1 (k x) = true) (h3 : ∀ x ∈ xs, (k x).depth ≤ 32) : sortOkB (xs.map k) = true := by
  unfold sortOkB allAlikeB
  rw [Bool.and_eq_true, Bool.and_eq_true, Bool.or_eq_true]
  refine ⟨⟨List.all_eq_true.mpr fun d hd => List.all_eq_true.mpr fun d' hd' => ?_, .inl (List.all_eq_true.mpr fun d hd => ?_)⟩, List.all_eq_true.mpr fun d hd => ?_⟩
  · obtain ⟨x, hx, rfl⟩ := List.mem_map.mp hd
    obtain ⟨y, hy, rfl⟩ := List.mem_map.mp hd'
    exact h1 x hx y hy
  · obtain ⟨x, hx, rfl⟩ := List.mem_map.mp hd
    exact h2 x hx
  · obtain ⟨x, hx, rfl⟩ := List.mem_map.mp hd
    exact decide_eq_true (h3 x hx)
/-- sorting data by what they are -/
theorem sortDs_map {α : Type} {f : α → D} {k : α → PyData} {xs : List α} (h : ∀ x ∈ xs, keyP (f x) = some (k x)) (h1 : ∀ x ∈ xs, ∀ y ∈ xs, PySem.W.alike (k x) (k y) = true) (h2 : ∀ x ∈ xs, isTup1 (k x) = true) (h3 : ∀ x ∈ xs, (k x).depth ≤ 32) : sortDs (xs.map f) = some ((xs.mergeSort (PySem.W.dataLe false k)).map f) := by
  unfold sortDs
  rw [keyPs_map h]
  simp only [sortOk_map h1 h2 h3, if_true]
  rw [sortBy_map, sortBy_key]
theorem sort_fac {kvs : List (Str × Int)} : sortDs (itemsD (facK kvs)) = some ((srtF kvs).map facD) := by
  have e : itemsD (facK kvs) = kvs.map facD := by
    unfold itemsD facK
    rw [List.map_map]; rfl
  rw [e]
  exact sortDs_map (fun _ _ => rfl) (fun _ _ _ _ => rfl) (fun _ _ => rfl) (fun x _ => by
    show (facP x).depth ≤ 32
    simp [facP, PyData.depth, PyData.depthAll])
theorem srt_perm (kvs : List (Str × Int)) : (srtF kvs).Perm kvs := List.mergeSort_perm ..
end K02
end M

namespace M
namespace K02
open PySem L2
/-! ### a drawn sum -/
theorem atI_last {ds : List D} {d : D} (h : ds[ds.length - 1]? = some d) : atI ds (-1) = some d := by
  have hl : 0 < ds.length := by
    cases ds with
    | nil => simp at h
    | cons _ _ => simp
  unfold atI ixN
  rw [if_neg (by omega), if_pos (by omega)]
  have : ((-1 : Int) + (ds.length : Int)).toNat = ds.length - 1 := by omega
  simp only [this]
  exact h
theorem min2_ok {S : Sto} {n : Nat} {a b : Int} (h : S[n]? = some (.lst [.int a, .int b])) : fMinL [.ref n] S = .ok (.int (min a b)) S := by
  unfold fMinL lsOf
  simp only [h]
  rfl
theorem max2_ok {S : Sto} {n : Nat} {a b : Int} (h : S[n]? = some (.lst [.int a, .int b])) : fMaxL [.ref n] S = .ok (.int (max a b)) S := by
  unfold fMaxL lsOf
  simp only [h]
  rfl
/-- what a drawn sum is -/
structure GSum (ls : List NLoop) (s : NSum) : Prop where
  gf : GF ls s.fs
  few : s.fs.length ≤ 2
  so : ∃ kvs, s.fs = srtF kvs ∧ GF ls kvs ∧ (s.n + lowS' kvs ls = 0 ∨ s.n + lowS' kvs ls = 1)
def hiB (ls : List NLoop) (s : NSum) : Int := s.n + higS s.fs ls
theorem facOf_perm {a b : List (Str × Int)} (hp : a.Perm b) (hn : (b.map (·.1)).Nodup) (x : Str) : facOf a x = facOf b x := by
  have hna : (a.map (·.1)).Nodup := (hp.map (·.1)).nodup_iff.mpr hn
  have key : ∀ (kvs : List (Str × Int)), (kvs.map (·.1)).Nodup → ∀ f, facOf kvs x = some f ↔ (x, f) ∈ kvs := fun kvs hk f => by
    unfold facOf
    induction kvs with
    | nil => simp
    | cons q r ih =>
      rw [List.map_cons, List.nodup_cons] at hk
      by_cases hq : q.1 = x
      · rw [List.find?_cons_of_pos (by simpa using hq)]
        constructor
        · intro h
          have h : q.2 = f := by simpa using h
          rw [← h, ← hq]
          exact List.mem_cons_self ..
        · intro h
          rcases List.mem_cons.mp h with h | h
          · rw [← h]; rfl
          · exact absurd (List.mem_map.mpr ⟨(x, f), h, hq.symm⟩) hk.1
      · rw [List.find?_cons_of_neg (by simpa using hq), ih hk.2]
        constructor
        · exact fun h => List.mem_cons_of_mem _ h
        · intro h
          rcases List.mem_cons.mp h with h | h
          · exact absurd (by rw [← h]) hq
          · exact h
  cases h : facOf b x with
  | some f => exact (key a hna f).mpr (hp.mem_iff.mpr ((key b hn f).mp h))
  | none =>
    cases h2 : facOf a x with
    | none => rfl
    | some f =>
      have := (key b hn f).mpr (hp.mem_iff.mp ((key a hna f).mp h2))
      rw [h] at this
      cases this
theorem higS_perm {a b : List (Str × Int)} (hp : a.Perm b) (hn : (b.map (·.1)).Nodup) (ls : List NLoop) : higS a ls = higS b ls := by
  unfold higS
  congr 1
  refine List.map_congr_left fun l _ => ?_
  unfold higT
  rw [facOf_perm hp hn]
theorem GF.perm {ls : List NLoop} {a b : List (Str × Int)} (h : GF ls b) (hp : a.Perm b) : GF ls a := ⟨(hp.map (·.1)).nodup_iff.mpr h.nd, fun q hq => h.fac q (hp.mem_iff.mp hq)⟩
section
variable {B S : Sto} {c lp hh : Nat} {ns hs : List Int} {ls : List NLoop}
abbrev EA (ns : List Int) (t lp hh : Nat) (k lo nu fa low hig va en : Option D) : En := [some (.rl ns), some (.ref t), some (.ref lp), some (.ref hh), k, lo, nu, fa, low, hig, va, en]
theorem a_sum_1 {B S1 : Sto} {c n0 : Nat} {kvs : List (Str × Int)} {k lo nu va en : Option D} (r : Rdy B S1 c) (hc : c ≤ 100000) (hlp : S1[lp]? = some (.lst (ls.map lopD))) (lp2 : B.length + 2 ≤ lp) (h1 : 1 ≤ ls.length) (h3 : ls.length ≤ 3) (hf : S1[n0]? = some (.dk (facK kvs))) (n2 : B.length + 2 ≤ n0) (gf : GF ls kvs) (hk : kvs.length ≤ 10) (hne : lp ≠ n0) :
    WS (w__law_a_sum_2 (EA ns (B.length + 1) lp hh k lo nu (some (.ref n0)) (some (.int 0)) (some (.int 0)) va en) S1) (fun E' S' => ∃ lo kvs', E' = EA ns (B.length + 1) lp hh k lo nu (some (.ref n0)) (some (.int 0)) (some (.int 0)) va en ∧ S'[n0]? = some (.dk (facK kvs')) ∧ GF ls kvs' ∧ kvs'.length ≤ kvs.length + 1 ∧ Rdy B S' (c + 2) ∧ S1.length ≤ S'.length ∧ ∀ i, B.length + 2 ≤ i → i < S1.length → i ≠ n0 → S'[i]? = S1[i]?) (fun _ _ => False) := by
  obtain ⟨v, S2, e1, hv, r2, l2, f2⟩ := draw_at (ns := ns) (many := ls.length) r (by omega) (by omega) (by omega)
  have hz : (1000000 : Nat) ≤ sizeLine := by decide
  have hl := (List.getElem?_eq_some_iff.mp hlp).1
  have hlp2 : S2[lp]? = some (.lst (ls.map lopD)) := by rw [f2 lp lp2]; exact hlp
  have hlen : fLen [.ref lp] S1 = .ok (.int (ls.length : Nat)) S1 := by rw [len_lst hlp, List.length_map]
  have hix : opIx (.ref lp) (.int (v : Nat)) S2 = .ok (lopD ls[v]) S2 := ix_lst hlp2 (by rw [atI_nat (by simpa using hv), List.getElem?_map, List.getElem?_eq_getElem hv]; rfl)
  unfold w__law_a_sum_2
  refine ws_seq (ws_asg (Ok.of (m2_ok rfl (call_ok (cons_ok rfl (cons_ok rfl (cons_ok (n1_ok rfl hlen) rfl))) rfl e1) hix) (Ok.of (a := EA ns (B.length + 1) lp hh k (some (lopD ls[v])) nu (some (.ref n0)) (some (.int 0)) (some (.int 0)) va en) rfl ?_)))
  have r3 : Rdy B (S2 ++ [.lst [.int 1, .int 1, .int 1, .int (-1)]]) (c + 1) := r2.snoc rfl
  obtain ⟨u, S3, e3, hu, r4, l4, f4⟩ := draw_at (ns := ns) (many := 4) r3 (by omega) (by decide) (by decide)
  have g3 : S3[S2.length]? = some (.lst [.int 1, .int 1, .int 1, .int (-1)]) := by
    rw [f4 _ (by rw [l2]; exact r.two)]
    exact get_end ..
  obtain ⟨w, hw, hw1⟩ : ∃ w, opIx (.ref S2.length) (.int (u : Nat)) S3 = .ok (.int w) S3 ∧ (w = 1 ∨ w = -1) := by
    have : u = 0 ∨ u = 1 ∨ u = 2 ∨ u = 3 := by omega
    rcases this with rfl | rfl | rfl | rfl
    · exact ⟨1, ix_lst g3 rfl, .inl rfl⟩
    · exact ⟨1, ix_lst g3 rfl, .inl rfl⟩
    · exact ⟨1, ix_lst g3 rfl, .inl rfl⟩
    · exact ⟨-1, ix_lst g3 rfl, .inr rfl⟩
  have n0l := (List.getElem?_eq_some_iff.mp hf).1
  have hf3 : S3[n0]? = some (.dk (facK kvs)) := by
    rw [f4 n0 n2, List.getElem?_append_left (by omega), f2 n0 n2]
    exact hf
  have hset := set_dk (d := .str ls[v].x) (k := .inr ls[v].x) (e := .int w) hf3 rfl (by unfold facK; rw [List.length_map]; omega)
  rw [facK_set] at hset
  refine ws_asg (Ok.of (m2_ok (lst_ok rfl (by simp)) (call_ok rfl rfl e3) hw) (Ok.of (gS_ok rfl rfl hset) ?_))
  have hS3 : S3.length = S1.length + 1 := by rw [l4, List.length_append, List.length_singleton, l2]
  refine ⟨some (lopD ls[v]), setF kvs ls[v].x w, rfl, by rw [List.getElem?_set_self (by omega)], gf.set (List.mem_map.mpr ⟨_, List.getElem_mem hv, rfl⟩) hw1, setF_len, r4.set n2 fac_low', by rw [List.length_set]; omega, fun i i1 i2 i3 => ?_⟩
  rw [List.getElem?_set_ne (Ne.symm i3), f4 i i1, List.getElem?_append_left (by omega), f2 i i1]
end
end K02
end M

namespace M
namespace K02
open PySem L2
section
variable {B S : Sto} {c lp hh : Nat} {ns hs : List Int} {ls : List NLoop}
theorem first_get {l : NLoop} (g : GL l) : ((lvals l).map D.int)[0]? = some (.int (first l)) := by
  rw [List.getElem?_map, lv_get g.pos]
  simp [first]
theorem last_get {l : NLoop} (g : GL l) : ((lvals l).map D.int)[((lvals l).map D.int).length - 1]? = some (.int (last l)) := by
  have := g.pos
  rw [List.length_map, List.getElem?_map, lv_get (show (lvals l).length - 1 < (lvals l).length by omega)]
  rfl
theorem first_bd {l : NLoop} (g : GL l) : -200 ≤ first l ∧ first l ≤ 200 := by
  have := g.a
  have := g.b
  have := g.c
  unfold first
  omega
theorem last_bd {l : NLoop} (g : GL l) : -200 ≤ last l ∧ last l ≤ 200 := by
  have hp := g.pos
  have h := g.mem (List.mem_of_getElem? (lv_get (show (lvals l).length - 1 < (lvals l).length by omega)))
  have := g.a
  have := g.c
  unfold last
  omega
theorem a_sum_2 {n0 t : Nat} {kvs : List (Str × Int)} {k nu va en : Option D} {L Hh : Int} {l : NLoop} (g : GL l) (hn : (lvals l).length < 100) (hf : S[n0]? = some (.dk (facK kvs))) :
    WS (w__law_a_sum_5 (EA ns t lp hh k (some (lopD l)) nu (some (.ref n0)) (some (.int L)) (some (.int Hh)) va en) S) (fun E' S' => ∃ va en T, E' = EA ns t lp hh k (some (lopD l)) nu (some (.ref n0)) (some (.int (L + lowT kvs l))) (some (.int (Hh + higT kvs l))) va en ∧ S' = S ++ T ∧ lowS 0 T = true) (fun _ _ => False) := by
  have hin := in_dk (d := .str l.x) (k := .inr l.x) hf rfl
  rw [facK_get, Option.isSome_map] at hin
  unfold w__law_a_sum_5
  refine ws_if (Ok.of (tB_ok (m2_ok (m2_ok rfl rfl rfl) rfl hin)) ⟨fun hc => ?_, fun hc => ws_nil ?_⟩)
  · obtain ⟨f, hfo⟩ := Option.isSome_iff_exists.mp hc
    have e1 := loop_values_ok (S := S) g hn
    refine ws_seq (ws_asg (Ok.of (call_ok rfl rfl e1) (Ok.of (a := EA ns t lp hh k (some (lopD l)) nu (some (.ref n0)) (some (.int L)) (some (.int Hh)) (some (.ref S.length)) en) rfl ?_)))
    have hf2 : (S ++ [O.lst ((lvals l).map .int)])[n0]? = some (.dk (facK kvs)) := get_old hf
    have gf : opIx (.ref n0) (.str l.x) (S ++ [O.lst ((lvals l).map .int)]) = .ok (.int f) (S ++ [O.lst ((lvals l).map .int)]) := ix_dk hf2 rfl (by rw [facK_get, hfo]; rfl)
    have g0 : opIx (.ref S.length) (.int 0) (S ++ [O.lst ((lvals l).map .int)]) = .ok (.int (first l)) (S ++ [O.lst ((lvals l).map .int)]) := ix_lst (get_end ..) (by
      have h0 := atI_nat (xs := (lvals l).map D.int) (i := 0) (by rw [List.length_map]; exact g.pos)
      rw [first_get g] at h0
      exact h0)
    have g1 : opIx (.ref S.length) (.int (-1)) (S ++ [O.lst ((lvals l).map .int)]) = .ok (.int (last l)) (S ++ [O.lst ((lvals l).map .int)]) := ix_lst (get_end ..) (atI_last (last_get g))
    have m0 : ∀ S' : Sto, opMul (.int f) (.int (first l)) S' = .ok (.int (f * first l)) S' := fun S' => mul_ok ⟨by have := first_bd g; omega, by have := first_bd g; omega⟩
    have m1' : ∀ S' : Sto, opMul (.int f) (.int (last l)) S' = .ok (.int (f * last l)) S' := fun S' => mul_ok ⟨by have := last_bd g; omega, by have := last_bd g; omega⟩
    have eL : mLst (aCons (m2 opMul (m2 opIx (mV 7) (m2 opIx (mV 5) (mC (.int 0)))) (m2 opIx (mV 10) (mC (.int 0)))) (aCons (m2 opMul (m2 opIx (mV 7) (m2 opIx (mV 5) (mC (.int 0)))) (m2 opIx (mV 10) (m1 opNeg (mC (.int 1))))) (aNil))) (EA ns t lp hh k (some (lopD l)) nu (some (.ref n0)) (some (.int L)) (some (.int Hh)) (some (.ref S.length)) en) (S ++ [O.lst ((lvals l).map .int)]) = .ok (.ref (S ++ [O.lst ((lvals l).map .int)]).length) (S ++ [O.lst ((lvals l).map .int)] ++ [.lst [.int (f * first l), .int (f * last l)]]) := by
      have a1 : m2 opMul (m2 opIx (mV 7) (m2 opIx (mV 5) (mC (.int 0)))) (m2 opIx (mV 10) (mC (.int 0))) (EA ns t lp hh k (some (lopD l)) nu (some (.ref n0)) (some (.int L)) (some (.int Hh)) (some (.ref S.length)) en) (S ++ [O.lst ((lvals l).map .int)]) = .ok (.int (f * first l)) (S ++ [O.lst ((lvals l).map .int)]) := m2_ok (m2_ok rfl (m2_ok rfl rfl rfl) gf) (m2_ok rfl rfl g0) (m0 _)
      have a2 : m2 opMul (m2 opIx (mV 7) (m2 opIx (mV 5) (mC (.int 0)))) (m2 opIx (mV 10) (m1 opNeg (mC (.int 1)))) (EA ns t lp hh k (some (lopD l)) nu (some (.ref n0)) (some (.int L)) (some (.int Hh)) (some (.ref S.length)) en) (S ++ [O.lst ((lvals l).map .int)]) = .ok (.int (f * last l)) (S ++ [O.lst ((lvals l).map .int)]) := m2_ok (m2_ok rfl (m2_ok rfl rfl rfl) gf) (m2_ok rfl rfl g1) (m1' _)
      exact lst_ok (cons_ok a1 (cons_ok a2 rfl)) (by simp)
    refine ws_seq (ws_asg (Ok.of eL (Ok.of (a := EA ns t lp hh k (some (lopD l)) nu (some (.ref n0)) (some (.int L)) (some (.int Hh)) (some (.ref S.length)) (some (.ref (S ++ [O.lst ((lvals l).map .int)]).length))) rfl ?_)))
    have mn := min2_ok (S := S ++ [O.lst ((lvals l).map .int)] ++ [.lst [.int (f * first l), .int (f * last l)]]) (get_end ..)
    have mx := max2_ok (S := S ++ [O.lst ((lvals l).map .int)] ++ [.lst [.int (f * first l), .int (f * last l)]]) (get_end ..)
    refine ws_par (Ok.of (cons_ok (m2_ok rfl (n1_ok rfl mn) rfl) (cons_ok (m2_ok rfl (n1_ok rfl mx) rfl) rfl)) ⟨_, _, rfl, ?_⟩)
    refine ⟨some (.ref S.length), some (.ref (S ++ [O.lst ((lvals l).map .int)]).length), [O.lst ((lvals l).map .int), .lst [.int (f * first l), .int (f * last l)]], ?_, by simp, cl_cons lowDs_ints (cl_cons rfl rfl)⟩
    unfold lowT higT
    rw [hfo]
    rfl
  · have hfo : facOf kvs l.x = none := by
      cases h : facOf kvs l.x with
      | none => rfl
      | some f => rw [h] at hc; cases hc
    refine ⟨va, en, [], ?_, by simp, rfl⟩
    unfold lowT higT
    rw [hfo]
    simp
theorem Rdy.cut {S4 : Sto} {c' : Nat} (h : Rdy B S c) (r : Rdy B S4 c') (hl : S.length ≤ S4.length) (hW : ∀ i, B.length + 2 ≤ i → i < S.length → S4[i]? = S[i]? ∨ ∃ o, S4[i]? = some o ∧ lowO S.length o = true) : lowS S.length (S4.take S.length) = true ∧ Rdy B (S4.take S.length) c' := by
  have hS2 := h.two
  have tk : ∀ i, i < S.length → (S4.take S.length)[i]? = S4[i]? := fun i hi => by rw [List.getElem?_take, if_pos hi]
  have hlen : (S4.take S.length).length = S.length := by rw [List.length_take]; omega
  have low : lowS S.length (S4.take S.length) = true := by
    refine List.all_eq_true.mpr fun o ho => ?_
    obtain ⟨i, hi, e⟩ := List.getElem_of_mem ho
    rw [hlen] at hi
    have e1 : S4[i]? = some o := by
      rw [← tk i hi, List.getElem?_eq_getElem (by rw [hlen]; exact hi), e]
    by_cases c1 : B.length + 2 ≤ i
    · rcases hW i c1 hi with hw | ⟨o', h1, h2⟩
      · rw [e1] at hw
        exact List.all_eq_true.mp h.tn.low o (List.mem_of_getElem? hw.symm)
      · rw [e1] at h1
        cases h1
        exact h2
    · by_cases c2 : i < B.length
      · have e2 := r.tb i c2
        rw [e1, ← h.tb i c2] at e2
        exact List.all_eq_true.mp h.tn.low o (List.mem_of_getElem? e2.symm)
      · by_cases c3 : i = B.length + 1
        · subst c3
          rw [r.tn.tw] at e1
          cases e1
          show (true && (decide (B.length < S.length) && true)) = true
          rw [decide_eq_true (by omega)]; rfl
        · have c4 : i = B.length := by omega
          subst c4
          obtain ⟨rs, a1, a2, _⟩ := r.tn.ex
          rw [a1] at e1
          cases e1
          exact lowDs_vals a2
  refine ⟨low, ⟨r.tn.ne, by unfold Low; rw [hlen]; exact low, by rw [tk _ (by omega)]; exact r.tn.tw, ?_⟩, fun i hi => by rw [tk i (by omega)]; exact r.tb i hi⟩
  obtain ⟨rs, a1, a2, a3⟩ := r.tn.ex
  exact ⟨rs, by rw [tk _ (by omega)]; exact a1, a2, a3⟩
theorem a_sum_ok (h : Rdy B S c) (hc : c ≤ 10000) (hlp : S[lp]? = some (.lst (ls.map lopD))) (lp2 : B.length + 2 ≤ lp) (h1 : 1 ≤ ls.length) (h3 : ls.length ≤ 3) (gl : ∀ l ∈ ls, GL l ∧ (lvals l).length < 100) (hhh : S[hh]? = some (.lst (hs.map .int))) (hh2 : B.length + 2 ≤ hh) (hne : lp ≠ hh) (hsl : hs.length ≤ 1000) :
    ∃ s S' c', m__law_a_sum [.rl ns, .ref (B.length + 1), .ref lp, .ref hh] S = .ok (sumD s) S' ∧ GSum ls s ∧ Rdy B S' c' ∧ c' ≤ c + 10 ∧ S'.length = S.length ∧ S'[hh]? = some (.lst ((hs ++ [hiB ls s]).map .int)) ∧ ∀ i, B.length + 2 ≤ i → i ≠ hh → S'[i]? = S[i]? := by
  have hz : (1000000 : Nat) ≤ sizeLine := by decide
  have hlpl := (List.getElem?_eq_some_iff.mp hlp).1
  have hhl := (List.getElem?_eq_some_iff.mp hhh).1
  have hS2 := h.two
  suffices hh : Ok (m__law_a_sum [.rl ns, .ref (B.length + 1), .ref lp, .ref hh] S) (fun d S' => ∃ s c', d = sumD s ∧ GSum ls s ∧ Rdy B S' c' ∧ c' ≤ c + 10 ∧ S'.length = S.length ∧ S'[hh]? = some (.lst ((hs ++ [hiB ls s]).map .int)) ∧ ∀ i, B.length + 2 ≤ i → i ≠ hh → S'[i]? = S[i]?) by
    obtain ⟨d, S', e, s, c', rfl, q⟩ := hh.get
    exact ⟨s, S', c', e, q⟩
  unfold m__law_a_sum b__law_a_sum
  have r0 : Rdy B (S ++ [.dk []]) c := h.snoc rfl
  refine ok_mdef (ws_seq (ws_par3 (Ok.of (cons_ok rfl (cons_ok rfl (cons_ok rfl rfl))) ⟨_, _, _, rfl, ?_⟩)))
  obtain ⟨v, S1, e1, hv, r1, l1, f1⟩ := draw_at (ns := ns) (many := 2) r0 (by omega) (by decide) (by decide)
  have ea : ∀ S' : Sto, opAdd (.int 1) (.int (v : Nat)) S' = .ok (.int ((1 + v : Nat) : Int)) S' := fun S' => by
    rw [add_int]; congr 2
  have f10 : S1[S.length]? = some (.dk (facK [])) := by
    rw [f1 _ hS2]
    exact get_end ..
  rw [List.length_append, List.length_singleton] at l1
  refine ws_seq (ws_for (items := rangeD 0 ((1 + v : Nat) : Int)) (gd := fun _ => True) (fun i E S' => ∃ k lo kvs c', E = EA ns (B.length + 1) lp hh k lo none (some (.ref S.length)) (some (.int 0)) (some (.int 0)) none none ∧ S'[S.length]? = some (.dk (facK kvs)) ∧ GF ls kvs ∧ kvs.length ≤ i ∧ Rdy B S' c' ∧ c' ≤ c + 1 + 2 * i ∧ S.length + 1 ≤ S'.length ∧ ∀ j, B.length + 2 ≤ j → j < S.length → S'[j]? = S[j]?)
    (r1_at (t := aCons (m2 opAdd (mC (.int 1)) (mN (mCl 3 m__law_draw) (aCons (mV 0) (aCons (mV 1) (aCons (mC (.int 2)) (aNil)))))) (aNil)) (n := 1 + v) (cons_ok (m2_ok rfl (call_ok rfl rfl e1) (ea _)) rfl) (by omega)) ⟨none, none, [], c + 1, rfl, f10, ⟨List.nodup_nil, fun q hq => (List.not_mem_nil hq).elim⟩, Nat.le_refl _, r1, by omega, by omega, fun j j1 j2 => ?_⟩ (fun _ _ _ _ => trivial) ?_ ?_)
  · rw [f1 j j1, List.getElem?_append_left (by omega)]
  · rintro i dd E S' hi ⟨k, lo, kvs, c', rfl, q1, q2, q3, q4, q5, q6, q7⟩
    obtain ⟨hi2, rfl⟩ := range_get hi
    refine Ok.of (a := EA ns (B.length + 1) lp hh (some (.int (i : Nat))) lo none (some (.ref S.length)) (some (.int 0)) (some (.int 0)) none none) (S := S') rfl ?_
    refine (a_sum_1 (n0 := S.length) q4 (by omega) (by rw [q7 lp lp2 hlpl]; exact hlp) lp2 h1 h3 q1 hS2 q2 (by omega) (by omega)).mono ?_ (fun _ _ z => z.elim)
    rintro E2 S2 ⟨lo', kvs', rfl, p1, p2, p3, p4, p5, p6⟩
    exact ⟨_, _, kvs', c' + 2, rfl, p1, p2, by omega, p4, by omega, by omega, fun j j1 j2 => by rw [p6 j j1 (by omega) (by omega)]; exact q7 j j1 j2⟩
  · rintro E S' ⟨k, lo, kvs, c', rfl, q1, q2, q3, q4, q5, q6, q7⟩
    rw [range_len] at q3 q5
    have hlpS : S'[lp]? = some (.lst (ls.map lopD)) := by rw [q7 lp lp2 hlpl]; exact hlp
    have e2 : iA (mV 2) (EA ns (B.length + 1) lp hh k lo none (some (.ref S.length)) (some (.int 0)) (some (.int 0)) none none) S' = .ok ⟨ls.map lopD, fun S => S[lp]? = some (.lst (ls.map lopD)), none⟩ S' := by
      show aiOf (.ref lp) S' = _
      unfold aiOf
      simp only [hlpS]
    refine ws_seq (ws_for (items := ls.map lopD) (gd := fun S => S[lp]? = some (.lst (ls.map lopD))) (fun i E S2 => ∃ lo va en T, E = EA ns (B.length + 1) lp hh k lo none (some (.ref S.length)) (some (.int (lowS' kvs (ls.take i)))) (some (.int (higS kvs (ls.take i)))) va en ∧ S2 = S' ++ T ∧ lowS 0 T = true) e2 ⟨lo, none, none, [], rfl, by simp, rfl⟩ ?_ ?_ ?_)
    · rintro i E S2 ⟨lo, va, en, T, _, rfl, _⟩
      rw [List.getElem?_append_left (List.getElem?_eq_some_iff.mp hlpS).1]
      exact hlpS
    · rintro i dd E S2 hi ⟨lo, va, en, T, rfl, rfl, hT⟩
      obtain ⟨l, hl, rfl⟩ := map_get hi
      obtain ⟨g1, g2⟩ := gl l (List.mem_of_getElem? hl)
      refine Ok.of (a := EA ns (B.length + 1) lp hh k (some (lopD l)) none (some (.ref S.length)) (some (.int (lowS' kvs (ls.take i)))) (some (.int (higS kvs (ls.take i)))) va en) (S := S' ++ T) rfl ?_
      have hfT : (S' ++ T)[S.length]? = some (.dk (facK kvs)) := by rw [List.getElem?_append_left (by omega)]; exact q1
      refine (a_sum_2 g1 g2 hfT).mono ?_ (fun _ _ z => z.elim)
      rintro E2 S2 ⟨va', en', U, rfl, rfl, hU⟩
      refine ⟨some (lopD l), va', en', T ++ U, ?_, by rw [List.append_assoc], cl_app hT hU⟩
      unfold lowS' higS
      rw [take_succ_get hl]
      simp only [List.map_append, List.sum_append, List.map_cons, List.map_nil, List.sum_cons, List.sum_nil, Int.add_zero]
    · rintro E S2 ⟨lo, va, en, T, rfl, rfl, hT⟩
      rw [List.length_map, List.take_length]
      have r2 : Rdy B (S' ++ T) c' := ⟨⟨q4.tn.ne, low_app q4.tn.low hT, by rw [List.getElem?_append_left (List.getElem?_eq_some_iff.mp q4.tn.tw).1]; exact q4.tn.tw, by
        obtain ⟨rs, a1, a2, a3⟩ := q4.tn.ex
        exact ⟨rs, by rw [List.getElem?_append_left (List.getElem?_eq_some_iff.mp a1).1]; exact a1, a2, a3⟩⟩, fun j hj => by
        rw [List.getElem?_append_left (by have := q4.two; omega)]
        exact q4.tb j hj⟩
      obtain ⟨w, S3, e3, hw, r3, l3, f3⟩ := draw_at (ns := ns) (many := 2) r2 (by omega) (by decide) (by decide)
      obtain ⟨nu, hnu⟩ : ∃ nu : Int, nu = (w : Nat) - lowS' kvs ls := ⟨_, rfl⟩
      have esub : ∀ S' : Sto, opSub (.int (w : Nat)) (.int (lowS' kvs ls)) S' = .ok (.int nu) S' := fun S' => by rw [hnu]; rfl
      refine ws_seq (ws_asg (Ok.of (m2_ok (call_ok rfl rfl e3) rfl (esub _)) (Ok.of (a := EA ns (B.length + 1) lp hh k lo (some (.int nu)) (some (.ref S.length)) (some (.int (lowS' kvs ls))) (some (.int (higS kvs ls))) va en) rfl ?_)))
      have hh3 : S3[hh]? = some (.lst (hs.map .int)) := by
        rw [f3 hh hh2, List.getElem?_append_left (by omega), q7 hh hh2 hhl]
        exact hhh
      have hap : fAppend (.ref hh) [.int (higS kvs ls + nu)] S3 = .ok .non (S3.set hh (.lst ((hs ++ [higS kvs ls + nu]).map .int))) := by
        unfold fAppend
        simp only [hh3]
        rw [if_pos (by rw [List.length_map]; omega), List.map_append]
        rfl
      refine ws_seq (ws_expr (Ok.of (meth2_ok rfl hh3 (cons_ok (m2_ok rfl rfl rfl) rfl) hap) ?_))
      have r4 : Rdy B (S3.set hh (.lst ((hs ++ [higS kvs ls + nu]).map .int))) (c' + 1) := r3.set hh2 lowDs_ints
      have hS3l : S3.length = (S' ++ T).length := l3
      rw [List.length_append] at hS3l
      have hf4 : (S3.set hh (.lst ((hs ++ [higS kvs ls + nu]).map .int)))[S.length]? = some (.dk (facK kvs)) := by
        rw [List.getElem?_set_ne (by omega), f3 S.length hS2, List.getElem?_append_left (by omega)]
        exact q1
      have es : fSortItems (.ref S.length) (S3.set hh (.lst ((hs ++ [higS kvs ls + nu]).map .int))) = .ok (.ref (S3.set hh (.lst ((hs ++ [higS kvs ls + nu]).map .int))).length) (S3.set hh (.lst ((hs ++ [higS kvs ls + nu]).map .int)) ++ [.lst ((srtF kvs).map facD)]) := by
        unfold fSortItems
        simp only [hf4, sort_fac]
      have em : m1 fSortItems (mV 7) (EA ns (B.length + 1) lp hh k lo (some (.int nu)) (some (.ref S.length)) (some (.int (lowS' kvs ls))) (some (.int (higS kvs ls))) va en) (S3.set hh (.lst ((hs ++ [higS kvs ls + nu]).map .int))) = .ok (.ref (S3.set hh (.lst ((hs ++ [higS kvs ls + nu]).map .int))).length) (S3.set hh (.lst ((hs ++ [higS kvs ls + nu]).map .int)) ++ [.lst ((srtF kvs).map facD)]) := es
      refine ws_ret (Ok.of (a := sumD ⟨nu, srtF kvs⟩) (tup_ok (cons_ok rfl (cons_ok (n1_ok em (tup_lst (get_end ..))) rfl)) (by simp)) ?_)
      have hp := srt_perm kvs
      have hcut : ∀ i, i < S.length → (S3.set hh (.lst ((hs ++ [higS kvs ls + nu]).map .int)) ++ [O.lst ((srtF kvs).map facD)])[i]? = (S3.set hh (.lst ((hs ++ [higS kvs ls + nu]).map .int)))[i]? := fun i hi => by
        rw [List.getElem?_append_left (by rw [List.length_set]; omega)]
      have r5 : Rdy B (S3.set hh (.lst ((hs ++ [higS kvs ls + nu]).map .int)) ++ [O.lst ((srtF kvs).map facD)]) (c' + 1) := r4.snoc (lowDs_map fun _ _ => fac_low)
      have old : ∀ i, B.length + 2 ≤ i → i < S.length → i ≠ hh → (S3.set hh (.lst ((hs ++ [higS kvs ls + nu]).map .int)) ++ [O.lst ((srtF kvs).map facD)])[i]? = S[i]? := fun i i1 i2 i3 => by
        rw [hcut i i2, List.getElem?_set_ne (Ne.symm i3), f3 i i1, List.getElem?_append_left (by omega)]
        exact q7 i i1 i2
      have hhe : (S3.set hh (.lst ((hs ++ [higS kvs ls + nu]).map .int)) ++ [O.lst ((srtF kvs).map facD)])[hh]? = some (.lst ((hs ++ [higS kvs ls + nu]).map .int)) := by
        rw [hcut hh hhl, List.getElem?_set_self (by omega)]
      obtain ⟨hlowc, r6⟩ := Rdy.cut h r5 (by rw [List.length_append, List.length_set]; omega) fun i i1 i2 => by
        by_cases i3 : i = hh
        · subst i3
          exact .inr ⟨_, hhe, lowDs_ints⟩
        · exact .inl (old i i1 i2 i3)
      have tk : ∀ i, i < S.length → ((S3.set hh (.lst ((hs ++ [higS kvs ls + nu]).map .int)) ++ [O.lst ((srtF kvs).map facD)]).take S.length)[i]? = (S3.set hh (.lst ((hs ++ [higS kvs ls + nu]).map .int)) ++ [O.lst ((srtF kvs).map facD)])[i]? := fun i hi => by rw [List.getElem?_take, if_pos hi]
      unfold gc
      rw [sum_low, hlowc]
      simp only [Bool.and_self, if_true]
      refine Ok.ret ⟨⟨nu, srtF kvs⟩, c' + 1, rfl, ⟨q2.perm hp, by show (srtF kvs).length ≤ 2; rw [hp.length_eq]; omega, kvs, rfl, q2, ?_⟩, r6, by omega, ?_, ?_, fun i i1 i2 => ?_⟩
      · show nu + lowS' kvs ls = 0 ∨ nu + lowS' kvs ls = 1
        omega
      · rw [List.length_take, List.length_append, List.length_set]
        omega
      · rw [tk hh hhl, hhe]
        have : hiB ls ⟨nu, srtF kvs⟩ = higS kvs ls + nu := by
          unfold hiB
          rw [higS_perm hp q2.nd]
          exact Int.add_comm ..
        rw [this]
      · by_cases i3 : i < S.length
        · rw [tk i i3, old i i1 i3 i2]
        · rw [List.getElem?_eq_none (by rw [List.length_take]; omega), List.getElem?_eq_none (by omega)]
end
end K02
end M

namespace M
namespace K02
open PySem L2
/-! ### a drawn at -/
def zipMax (ls : List NLoop) (X : List Int) (ps : List NSum) : List Int := X.zipWith (fun x s => max x (hiB ls s + 1)) ps
/-- the sizes grown by an at -/
def upd (ls : List NLoop) (z : List Int × List Int) (t : Str) (ps : List NSum) : List Int × List Int := if t = "a" then (zipMax ls z.1 ps, z.2) else (z.1, zipMax ls z.2 ps)
structure Sz (S : Sto) (sz la lb : Nat) (z : List Int × List Int) : Prop where
  d : S[sz]? = some (.dk [(.inr "a", .ref la), (.inr "b", .ref lb)])
  a : S[la]? = some (.lst (z.1.map .int))
  b : S[lb]? = some (.lst (z.2.map .int))
  ne : la ≠ lb
  l1 : z.1.length = 1
  l2 : z.2.length = 2
theorem set_lst {S : Sto} {n i : Nat} {ds : List D} {d : D} (h : S[n]? = some (.lst ds)) (hi : i < ds.length) : fSet (.ref n) (.int (i : Nat)) d S = .ok () (S.set n (.lst (ds.set i d))) := by
  have e : ixN ds.length ((i : Nat) : Int) = some i := by
    unfold ixN
    rw [if_pos (by omega), if_pos (by omega)]
    simp
  unfold fSet
  simp only [h, e]
theorem max2I {S : Sto} {a b : Int} : fMax2 [.int a, .int b] S = .ok (.int (max a b)) S := by
  show Rs.ok (D.int (if b > a then b else a)) S = _
  congr 2
  omega
theorem zipMax_snoc {ls : List NLoop} {X : List Int} {ps : List NSum} {s : NSum} {x : Int} (hx : X[ps.length]? = some x) : ((zipMax ls X ps ++ X.drop ps.length).set ps.length (max x (hiB ls s + 1))) = zipMax ls X (ps ++ [s]) ++ X.drop (ps.length + 1) := by
  have hl : ps.length < X.length := (List.getElem?_eq_some_iff.mp hx).1
  have e1 : (zipMax ls X ps).length = ps.length := by unfold zipMax; rw [List.length_zipWith]; omega
  rw [List.set_append_right _ _ (by omega), e1, Nat.sub_self]
  have e2 : X.drop ps.length = x :: X.drop (ps.length + 1) := by
    obtain ⟨h1, rfl⟩ := List.getElem?_eq_some_iff.mp hx
    rw [List.drop_eq_getElem_cons h1]
  rw [e2, List.set_cons_zero]
  have e3 : zipMax ls X (ps ++ [s]) = zipMax ls X ps ++ [max x (hiB ls s + 1)] := by
    unfold zipMax
    conv => lhs; rw [← List.take_append_drop ps.length X]
    rw [List.zipWith_append (by rw [List.length_take]; omega), e2]
    have : ∀ (X : List Int) (ps : List NSum), List.zipWith (fun x s => max x (hiB ls s + 1)) (X.take ps.length) ps = List.zipWith (fun x s => max x (hiB ls s + 1)) X ps := by
      intro X ps
      induction ps generalizing X with
      | nil => simp
      | cons p ps ih => cases X with
        | nil => rfl
        | cons y X => simp only [List.length_cons, List.take_succ_cons, List.zipWith_cons_cons, ih]
    rw [this, List.zipWith_cons_cons, List.zipWith_nil_right]
  rw [e3, List.append_assoc]
  rfl
section
variable {B S : Sto} {c lp : Nat} {ns : List Int} {ls : List NLoop}
abbrev EB (ns : List Int) (t lp sz : Nat) (nm k pl hi : Option D) : En := [some (.rl ns), some (.ref t), some (.ref lp), some (.ref sz), nm, k, pl, hi]
/-- one place of it -/
theorem an_at_1 {np nh lx sz : Nat} {nm : Str} {X : List Int} {ps : List NSum} (h : Rdy B S c) (hc : c ≤ 9000) (hlp : S[lp]? = some (.lst (ls.map lopD))) (lp2 : B.length + 2 ≤ lp) (h1 : 1 ≤ ls.length) (h3 : ls.length ≤ 3) (gl : ∀ l ∈ ls, GL l ∧ (lvals l).length < 100)
    (hp : S[np]? = some (.lst (ps.map sumD))) (np2 : B.length + 2 ≤ np) (hh : S[nh]? = some (.lst ((ps.map (hiB ls)).map .int))) (nh2 : B.length + 2 ≤ nh) (hx : S[lx]? = some (.lst ((zipMax ls X ps ++ X.drop ps.length).map .int))) (lx2 : B.length + 2 ≤ lx) (hz : ∃ kvs, S[sz]? = some (.dk kvs) ∧ getK kvs (.inr nm) = some (.ref lx)) (sz2 : B.length + 2 ≤ sz)
    (n1 : np ≠ nh) (n2 : np ≠ lx) (n3 : nh ≠ lx) (n4 : lp ≠ np) (n5 : lp ≠ nh) (n6 : lp ≠ lx) (n7 : sz ≠ np) (n8 : sz ≠ nh) (n9 : sz ≠ lx) (hi : ps.length < X.length) (hX : X.length ≤ 3) :
    WS (w__law_an_at_3 (EB ns (B.length + 1) lp sz (some (.str nm)) (some (.int (ps.length : Nat))) (some (.ref np)) (some (.ref nh))) S) (fun E' S' => ∃ s c', E' = EB ns (B.length + 1) lp sz (some (.str nm)) (some (.int (ps.length : Nat))) (some (.ref np)) (some (.ref nh)) ∧ GSum ls s ∧ Rdy B S' c' ∧ c' ≤ c + 10 ∧ S'.length = S.length ∧ S'[np]? = some (.lst ((ps ++ [s]).map sumD)) ∧ S'[nh]? = some (.lst (((ps ++ [s]).map (hiB ls)).map .int)) ∧ S'[lx]? = some (.lst ((zipMax ls X (ps ++ [s]) ++ X.drop (ps.length + 1)).map .int)) ∧ ∀ i, B.length + 2 ≤ i → i ≠ np → i ≠ nh → i ≠ lx → S'[i]? = S[i]?) (fun _ _ => False) := by
  have hzl : (1000000 : Nat) ≤ sizeLine := by decide
  obtain ⟨s, S1, c1, e1, gs, r1, hc1, l1, g1, f1⟩ := a_sum_ok (ns := ns) (hs := ps.map (hiB ls)) (hh := nh) h (by omega) hlp lp2 h1 h3 gl hh nh2 n5 (by rw [List.length_map]; omega)
  have hp1 : S1[np]? = some (.lst (ps.map sumD)) := by rw [f1 np np2 n1]; exact hp
  have lp1 := (List.getElem?_eq_some_iff.mp hp1).1
  have hap : fAppend (.ref np) [sumD s] S1 = .ok .non (S1.set np (.lst ((ps ++ [s]).map sumD))) := by
    unfold fAppend
    simp only [hp1]
    rw [if_pos (by rw [List.length_map]; omega), List.map_append]
    rfl
  unfold w__law_an_at_3
  refine ws_seq (ws_expr (Ok.of (meth2_ok rfl hp (cons_ok (call_ok rfl rfl e1) rfl) hap) ?_))
  have r2 : Rdy B (S1.set np (.lst ((ps ++ [s]).map sumD))) c1 := r1.set np2 (lowDs_map fun _ _ => sum_low)
  have hx2 : (S1.set np (.lst ((ps ++ [s]).map sumD)))[lx]? = some (.lst ((zipMax ls X ps ++ X.drop ps.length).map .int)) := by
    rw [List.getElem?_set_ne n2, f1 lx lx2 (Ne.symm n3)]; exact hx
  have hh2 : (S1.set np (.lst ((ps ++ [s]).map sumD)))[nh]? = some (.lst (((ps.map (hiB ls)) ++ [hiB ls s]).map .int)) := by
    rw [List.getElem?_set_ne n1]; exact g1
  obtain ⟨kvs, hd, hk⟩ := hz
  have hd2 : (S1.set np (.lst ((ps ++ [s]).map sumD)))[sz]? = some (.dk kvs) := by
    rw [List.getElem?_set_ne (Ne.symm n7), f1 sz sz2 n8]; exact hd
  obtain ⟨x, hxx⟩ : ∃ x, X[ps.length]? = some x := ⟨X[ps.length], List.getElem?_eq_getElem hi⟩
  have elen : (zipMax ls X ps).length = ps.length := by unfold zipMax; rw [List.length_zipWith]; omega
  have exl : (zipMax ls X ps ++ X.drop ps.length).length = X.length := by rw [List.length_append, elen, List.length_drop]; omega
  have gx : opIx (.ref lx) (.int (ps.length : Nat)) (S1.set np (.lst ((ps ++ [s]).map sumD))) = .ok (.int x) (S1.set np (.lst ((ps ++ [s]).map sumD))) := ix_lst hx2 (by
    rw [atI_nat (by rw [List.length_map, exl]; exact hi), List.getElem?_map, List.getElem?_append_right (by omega), elen, Nat.sub_self, List.getElem?_drop, Nat.add_zero, hxx]; rfl)
  have gh : opIx (.ref nh) (.int (ps.length : Nat)) (S1.set np (.lst ((ps ++ [s]).map sumD))) = .ok (.int (hiB ls s)) (S1.set np (.lst ((ps ++ [s]).map sumD))) := ix_lst hh2 (by
    rw [atI_nat (by simp), List.getElem?_map, List.getElem?_append_right (by simp), List.length_map, Nat.sub_self]; rfl)
  have gz : opIx (.ref sz) (.str nm) (S1.set np (.lst ((ps ++ [s]).map sumD))) = .ok (.ref lx) (S1.set np (.lst ((ps ++ [s]).map sumD))) := ix_dk hd2 rfl hk
  have hset := set_lst (d := .int (max x (hiB ls s + 1))) hx2 (by rw [List.length_map, exl]; exact hi)
  have em : (((zipMax ls X ps ++ X.drop ps.length).map D.int).set ps.length (.int (max x (hiB ls s + 1)))) = (zipMax ls X (ps ++ [s]) ++ X.drop (ps.length + 1)).map D.int := by
    rw [← List.map_set, zipMax_snoc hxx]
  rw [em] at hset
  refine ws_asg (Ok.of (mN_ok (cons_ok (m2_ok (m2_ok rfl rfl gz) rfl gx) (cons_ok (m2_ok (m2_ok rfl rfl gh) rfl rfl) rfl)) max2I) (Ok.of (gS_ok (m2_ok rfl rfl gz) rfl hset) ?_))
  have lx3 := (List.getElem?_eq_some_iff.mp hx2).1
  refine ⟨s, c1, rfl, gs, r2.set lx2 lowDs_ints, hc1, by rw [List.length_set, List.length_set]; exact l1, ?_, ?_, by rw [List.getElem?_set_self lx3], fun i i1 i2 i3 i4 => ?_⟩
  · rw [List.getElem?_set_ne (Ne.symm n2), List.getElem?_set_self lp1]
  · rw [List.getElem?_set_ne (Ne.symm n3), hh2, List.map_append (f := hiB ls)]; rfl
  · rw [List.getElem?_set_ne (Ne.symm i4), List.getElem?_set_ne (Ne.symm i2), f1 i i1 i3]
theorem an_at_ok {sz la lb : Nat} {z : List Int × List Int} (h : Rdy B S c) (hc : c ≤ 8000) (hlp : S[lp]? = some (.lst (ls.map lopD))) (lp2 : B.length + 2 ≤ lp) (h1 : 1 ≤ ls.length) (h3 : ls.length ≤ 3) (gl : ∀ l ∈ ls, GL l ∧ (lvals l).length < 100) (hz : Sz S sz la lb z) (sz2 : B.length + 2 ≤ sz) (la2 : B.length + 2 ≤ la) (lb2 : B.length + 2 ≤ lb) (m1 : lp ≠ la) (m2' : lp ≠ lb) (m3 : sz ≠ la) (m4 : sz ≠ lb) :
    ∃ t ps S' c', m__law_an_at [.rl ns, .ref (B.length + 1), .ref lp, .ref sz] S = .ok (.tup [.str t, plcD ps]) S' ∧ (t = "a" ∧ ps.length = 1 ∨ t = "b" ∧ ps.length = 2) ∧ (∀ s ∈ ps, GSum ls s) ∧ Rdy B S' c' ∧ c' ≤ c + 31 ∧ S'.length = S.length ∧ Sz S' sz la lb (upd ls z t ps) ∧ ∀ i, B.length + 2 ≤ i → i ≠ la → i ≠ lb → S'[i]? = S[i]? := by
  have hzl : (1000000 : Nat) ≤ sizeLine := by decide
  have hS2 := h.two
  suffices hh : Ok (m__law_an_at [.rl ns, .ref (B.length + 1), .ref lp, .ref sz] S) (fun d S' => ∃ t ps c', d = .tup [.str t, plcD ps] ∧ (t = "a" ∧ ps.length = 1 ∨ t = "b" ∧ ps.length = 2) ∧ (∀ s ∈ ps, GSum ls s) ∧ Rdy B S' c' ∧ c' ≤ c + 31 ∧ S'.length = S.length ∧ Sz S' sz la lb (upd ls z t ps) ∧ ∀ i, B.length + 2 ≤ i → i ≠ la → i ≠ lb → S'[i]? = S[i]?) by
    obtain ⟨d, S', e, t, ps, c', rfl, q⟩ := hh.get
    exact ⟨t, ps, S', c', e, q⟩
  unfold m__law_an_at b__law_an_at
  have r0 : Rdy B (S ++ [.lst [.str "a", .str "b"]]) c := h.snoc rfl
  obtain ⟨v, S1, e1, hv, r1, l1, f1⟩ := draw_at (ns := ns) (many := 2) r0 (by omega) (by decide) (by decide)
  rw [List.length_append, List.length_singleton] at l1
  have g0 : S1[S.length]? = some (.lst [.str "a", .str "b"]) := by rw [f1 _ hS2]; exact get_end ..
  have hlpl := (List.getElem?_eq_some_iff.mp hlp).1
  have hszl := (List.getElem?_eq_some_iff.mp hz.d).1
  have hlal := (List.getElem?_eq_some_iff.mp hz.a).1
  have hlbl := (List.getElem?_eq_some_iff.mp hz.b).1
  have old1 : ∀ i, B.length + 2 ≤ i → i < S.length → S1[i]? = S[i]? := fun i i1 i2 => by rw [f1 i i1, List.getElem?_append_left i2]
  obtain ⟨nm, lx, X, hnm, hgk, hlx, lx2, hlxl, hXl, hX1, hX2⟩ : ∃ (nm : Str) (lx : Nat) (X : List Int), opIx (.ref S.length) (.int (v : Nat)) S1 = .ok (.str nm) S1 ∧ getK [((.inr "a" : Key), D.ref la), (.inr "b", .ref lb)] (.inr nm) = some (.ref lx) ∧ S[lx]? = some (.lst (X.map .int)) ∧ B.length + 2 ≤ lx ∧ lx < S.length ∧ (nm = "a" ∧ X.length = 1 ∨ nm = "b" ∧ X.length = 2) ∧ (lx ≠ lp ∧ lx ≠ sz ∧ (lx = la ∨ lx = lb)) ∧
      ∀ (ps : List NSum) (S' : Sto), ps.length = X.length → S'[lx]? = some (.lst ((zipMax ls X ps).map .int)) → (∀ i, B.length + 2 ≤ i → i < S.length → i ≠ lx → S'[i]? = S[i]?) → Sz S' sz la lb (upd ls z nm ps) := by
    have hvv : v = 0 ∨ v = 1 := by omega
    have zl : ∀ {X : List Int} {ps : List NSum}, ps.length = X.length → (zipMax ls X ps).length = X.length := fun h => by unfold zipMax; rw [List.length_zipWith]; omega
    rcases hvv with rfl | rfl
    · refine ⟨"a", la, z.1, ix_lst g0 rfl, by kernel_rfl, hz.a, la2, hlal, .inl ⟨rfl, hz.l1⟩, ⟨Ne.symm m1, Ne.symm m3, .inl rfl⟩, fun ps S' hl hx ho => ?_⟩
      have e : upd ls z "a" ps = (zipMax ls z.1 ps, z.2) := by unfold upd; rw [if_pos rfl]
      rw [e]
      exact ⟨by rw [ho sz sz2 hszl m3]; exact hz.d, hx, by rw [ho lb lb2 hlbl (Ne.symm hz.ne)]; exact hz.b, hz.ne, by show (zipMax ls z.1 ps).length = 1; rw [zl hl]; exact hz.l1, hz.l2⟩
    · refine ⟨"b", lb, z.2, ix_lst g0 rfl, by kernel_rfl, hz.b, lb2, hlbl, .inr ⟨rfl, hz.l2⟩, ⟨Ne.symm m2', Ne.symm m4, .inr rfl⟩, fun ps S' hl hx ho => ?_⟩
      have e : upd ls z "b" ps = (z.1, zipMax ls z.2 ps) := by unfold upd; rw [if_neg (by decide)]
      rw [e]
      exact ⟨by rw [ho sz sz2 hszl m4]; exact hz.d, by rw [ho la la2 hlal hz.ne]; exact hz.a, hx, hz.ne, hz.l1, by show (zipMax ls z.2 ps).length = 2; rw [zl hl]; exact hz.l2⟩
  have hXb : X.length ≤ 3 := by rcases hXl with ⟨_, h⟩ | ⟨_, h⟩ <;> omega
  refine ok_mdef (ws_seq (ws_asg (Ok.of (m2_ok (lst_ok rfl (by simp)) (call_ok rfl rfl e1) hnm) (Ok.of (a := EB ns (B.length + 1) lp sz (some (.str nm)) none none none) rfl ?_))))
  have hl1 : (S1 ++ [O.lst []]).length = S1.length + 1 := by simp
  refine ws_seq (ws_par (Ok.of (cons_ok (lst_ok (ds := []) rfl (by decide)) (cons_ok (lst_ok (ds := []) rfl (by decide)) rfl)) ⟨_, _, rfl, ?_⟩))
  have r3 : Rdy B (S1 ++ [.lst []] ++ [.lst []]) (c + 1) := (r1.snoc rfl).snoc rfl
  have hd3 : (S1 ++ [O.lst []] ++ [O.lst []])[sz]? = some (.dk [(.inr "a", .ref la), (.inr "b", .ref lb)]) := by
    rw [List.getElem?_append_left (by simp; omega), List.getElem?_append_left (by omega), old1 sz sz2 hszl]; exact hz.d
  have hx3 : (S1 ++ [O.lst []] ++ [O.lst []])[lx]? = some (.lst (X.map .int)) := by
    rw [List.getElem?_append_left (by simp; omega), List.getElem?_append_left (by omega), old1 lx lx2 hlxl]; exact hlx
  have gz : opIx (.ref sz) (.str nm) (S1 ++ [O.lst []] ++ [O.lst []]) = .ok (.ref lx) (S1 ++ [O.lst []] ++ [O.lst []]) := ix_dk hd3 rfl hgk
  have hlen : fLen [.ref lx] (S1 ++ [O.lst []] ++ [O.lst []]) = .ok (.int (X.length : Nat)) (S1 ++ [O.lst []] ++ [O.lst []]) := by rw [len_lst hx3, List.length_map]
  refine ws_seq (ws_for (items := rangeD 0 ((X.length : Nat) : Int)) (gd := fun _ => True) (fun i E S' => ∃ k ps c', E = EB ns (B.length + 1) lp sz (some (.str nm)) k (some (.ref S1.length)) (some (.ref (S1.length + 1))) ∧ ps.length = i ∧ (∀ s ∈ ps, GSum ls s) ∧ Rdy B S' c' ∧ c' ≤ c + 1 + 10 * i ∧ S'.length = S1.length + 2 ∧ S'[S1.length]? = some (.lst (ps.map sumD)) ∧ S'[S1.length + 1]? = some (.lst ((ps.map (hiB ls)).map .int)) ∧ S'[lx]? = some (.lst ((zipMax ls X ps ++ X.drop i).map .int)) ∧ ∀ j, B.length + 2 ≤ j → j < S.length → j ≠ lx → S'[j]? = S[j]?)
    (r1_at (t := aCons (mN fLen (aCons (M.m2 opIx (mV 3) (mV 4)) (aNil))) (aNil)) (n := X.length) (cons_ok (n1_ok (m2_ok rfl rfl gz) hlen) rfl) (by omega)) ⟨none, [], c + 1, ?_, rfl, fun s hs => (List.not_mem_nil hs).elim, r3, by omega, by simp, by simp, by simp, ?_, fun j j1 j2 j3 => ?_⟩ (fun _ _ _ _ => trivial) ?_ ?_)
  · rw [hl1]; rfl
  · rw [hx3]
    have : zipMax ls X [] ++ X.drop 0 = X := by unfold zipMax; simp
    rw [this]
  · rw [List.getElem?_append_left (by simp; omega), List.getElem?_append_left (by omega), old1 j j1 j2]
  · rintro i dd E S' hi ⟨k, ps, c', rfl, rfl, q1, q2, q3, q4, q5, q6, q7, q8⟩
    obtain ⟨hi2, rfl⟩ := range_get hi
    refine Ok.of (a := EB ns (B.length + 1) lp sz (some (.str nm)) (some (.int (ps.length : Nat))) (some (.ref S1.length)) (some (.ref (S1.length + 1)))) (S := S') rfl ?_
    refine (an_at_1 (np := S1.length) (nh := S1.length + 1) (lx := lx) (X := X) q2 (by omega) (by rw [q8 lp lp2 hlpl (Ne.symm hX1.1)]; exact hlp) lp2 h1 h3 gl q5 (by omega) q6 (by omega) q7 lx2 ⟨_, by rw [q8 sz sz2 hszl (Ne.symm hX1.2.1)]; exact hz.d, hgk⟩ sz2 (by omega) (by omega) (by omega) (by omega) (by omega) (Ne.symm hX1.1) (by omega) (by omega) (Ne.symm hX1.2.1) hi2 hXb).mono ?_ (fun _ _ z => z.elim)
    rintro E2 S2 ⟨s, c2, rfl, p1, p2, p3, p4, p5, p6, p7, p8⟩
    exact ⟨_, ps ++ [s], c2, rfl, by simp, fun u hu => by
      rcases List.mem_append.mp hu with hu | hu
      · exact q1 u hu
      · simp at hu; rw [hu]; exact p1, p2, by omega, by omega, p5, p6, p7, fun j j1 j2 j3 => by rw [p8 j j1 (by omega) (by omega) j3]; exact q8 j j1 j2 j3⟩
  · rintro E S' ⟨k, ps, c', rfl, qn, q1, q2, q3, q4, q5, q6, q7, q8⟩
    rw [range_len] at qn q3 q7
    rw [List.drop_length, List.append_nil] at q7
    refine ws_ret (Ok.of (a := .tup [.str nm, plcD ps]) (tup_ok (cons_ok rfl (cons_ok (n1_ok rfl (tup_lst q5)) rfl)) (by simp)) ?_)
    obtain ⟨hlowc, r6⟩ := Rdy.cut h q2 (by omega) fun i i1 i2 => by
      by_cases i3 : i = lx
      · subst i3
        exact .inr ⟨_, q7, lowDs_ints⟩
      · exact .inl (q8 i i1 i2 i3)
    have tk : ∀ i, i < S.length → (S'.take S.length)[i]? = S'[i]? := fun i hi => by rw [List.getElem?_take, if_pos hi]
    have hlo : lowD S.length (.tup [.str nm, plcD ps]) = true := by
      show (true && (lowD _ (plcD ps) && true)) = true
      rw [plc_low]; rfl
    unfold gc
    rw [hlo, hlowc]
    simp only [Bool.and_self, if_true]
    refine Ok.ret ⟨nm, ps, c', rfl, ?_, q1, r6, by omega, by rw [List.length_take]; omega, ?_, fun i i1 i2 i3 => ?_⟩
    · rcases hXl with ⟨a1, a2⟩ | ⟨a1, a2⟩
      · exact .inl ⟨a1, by omega⟩
      · exact .inr ⟨a1, by omega⟩
    · exact hX2 ps _ qn (by rw [tk lx hlxl]; exact q7) fun i i1 i2 i3 => by rw [tk i i2]; exact q8 i i1 i2 i3
    · by_cases i4 : i < S.length
      · rw [tk i i4]
        refine q8 i i1 i4 fun e => ?_
        rcases hX1.2.2 with e2 | e2
        · exact i2 (e.trans e2)
        · exact i3 (e.trans e2)
      · rw [List.getElem?_eq_none (by rw [List.length_take]; omega), List.getElem?_eq_none (by omega)]
end
end K02
end M

namespace M
namespace K02
open PySem L2
/-! ### a drawn value -/
def GVl (ls : List NLoop) : Val → Prop
  | .num i => -4 ≤ i ∧ i ≤ 4
  | .lop x => x ∈ ls.map (·.x)
  | .at t ps => (t = "a" ∧ ps.length = 1 ∨ t = "b" ∧ ps.length = 2) ∧ ∀ s ∈ ps, GSum ls s
  | .two w a b => Pw w ∧ GVl ls a ∧ GVl ls b ∧ (w = "times" → ∃ i, b = .num i)
def updV (ls : List NLoop) (z : List Int × List Int) : Val → List Int × List Int
  | .num _ => z
  | .lop _ => z
  | .at t ps => upd ls z t ps
  | .two _ a b => updV ls (updV ls z a) b
def kv : Nat → Nat
  | 0 => 40
  | d + 1 => 2 * kv d + 5
theorem kv_40 : ∀ d, 40 ≤ kv d
  | 0 => Nat.le_refl _
  | d + 1 => by have := kv_40 d; unfold kv; omega
structure Fx (B : Sto) (lp sz la lb : Nat) (ls : List NLoop) : Prop where
  lp2 : B.length + 2 ≤ lp
  h1 : 1 ≤ ls.length
  h3 : ls.length ≤ 3
  gl : ∀ l ∈ ls, GL l ∧ (lvals l).length < 100
  sz2 : B.length + 2 ≤ sz
  la2 : B.length + 2 ≤ la
  lb2 : B.length + 2 ≤ lb
  m1 : lp ≠ la
  m2 : lp ≠ lb
  m3 : sz ≠ la
  m4 : sz ≠ lb
theorem Sz.same {B S S' : Sto} {lp sz la lb : Nat} {ls : List NLoop} {z : List Int × List Int} (h : Sz S sz la lb z) (fx : Fx B lp sz la lb ls) (f : ∀ i, B.length + 2 ≤ i → i < S.length → S'[i]? = S[i]?) : Sz S' sz la lb z :=
  ⟨by rw [f _ fx.sz2 (List.getElem?_eq_some_iff.mp h.d).1]; exact h.d, by rw [f _ fx.la2 (List.getElem?_eq_some_iff.mp h.a).1]; exact h.a, by rw [f _ fx.lb2 (List.getElem?_eq_some_iff.mp h.b).1]; exact h.b, h.ne, h.l1, h.l2⟩
section
variable {B : Sto} {lp sz la lb : Nat} {ns : List Int} {ls : List NLoop}
abbrev EV (ns : List Int) (t lp sz d : Nat) (tu w o : Option D) : En := [some (.rl ns), some (.ref t), some (.ref lp), some (.ref sz), some (.int (d : Nat)), tu, w, o]
/-- what a drawn value leaves -/
def AV (B : Sto) (sz la lb : Nat) (ls : List NLoop) (d : Nat) (S : Sto) (c : Nat) (z : List Int × List Int) (x : D) (S' : Sto) : Prop :=
  ∃ v c', x = valD v ∧ GVl ls v ∧ dpt v ≤ d + 1 ∧ Rdy B S' c' ∧ c' ≤ c + kv d ∧ S'.length = S.length ∧ Sz S' sz la lb (updV ls z v) ∧ ∀ i, B.length + 2 ≤ i → i ≠ la → i ≠ lb → S'[i]? = S[i]?
theorem a_value_ok (fx : Fx B lp sz la lb ls) : ∀ (n d : Nat) {S : Sto} {c : Nat} {z : List Int × List Int}, d < n → d ≤ 2 → Rdy B S c → c + kv d ≤ 8000 → S[lp]? = some (.lst (ls.map lopD)) → Sz S sz la lb z →
    Ok (m__law_a_value n [.rl ns, .ref (B.length + 1), .ref lp, .ref sz, .int (d : Nat)] S) (AV B sz la lb ls d S c z)
  | 0, _, _, _, _, h, _, _, _, _, _ => by omega
  | n + 1, d, S, c, z, hn, hd, h, hc, hlp, hz => by
    have hk := kv_40 d
    have hlpl := (List.getElem?_eq_some_iff.mp hlp).1
    unfold m__law_a_value b__law_a_value
    refine ok_mdef (ws_seq (ws_asg (Ok.mono (Q := fun x S1 => ∃ v : Nat, x = .int (v : Nat) ∧ (v < 4 ∨ 0 < d ∧ v < 6) ∧ Rdy B S1 (c + 1) ∧ S1.length = S.length ∧ ∀ i, B.length + 2 ≤ i → S1[i]? = S[i]?) ?_ ?_)))
    · refine ok_ifE (Ok.of (a := decide ((0 : Int) < (d : Nat))) (S := S) rfl ⟨fun hh => ?_, fun hh => ?_⟩)
      · obtain ⟨v, S1, e1, hv, r1, l1, f1⟩ := draw_at (ns := ns) (many := 6) h (by omega) (by decide) (by decide)
        exact Ok.of (call_ok rfl rfl e1) ⟨v, rfl, .inr ⟨by have := of_decide_eq_true hh; omega, hv⟩, r1, l1, f1⟩
      · obtain ⟨v, S1, e1, hv, r1, l1, f1⟩ := draw_at (ns := ns) (many := 4) h (by omega) (by decide) (by decide)
        exact Ok.of (call_ok rfl rfl e1) ⟨v, rfl, .inl hv, r1, l1, f1⟩
    rintro _ S1 ⟨v, rfl, hv, r1, l1, f1⟩
    have hlp1 : S1[lp]? = some (.lst (ls.map lopD)) := by rw [f1 lp fx.lp2]; exact hlp
    have hz1 : Sz S1 sz la lb z := hz.same fx fun i i1 _ => f1 i i1
    refine Ok.of (a := EV ns (B.length + 1) lp sz d (some (.int (v : Nat))) none none) (S := S1) rfl ?_
    have eqv : ∀ k : Int, tB (m2 opEq (mV 5) (mC (.int k))) (EV ns (B.length + 1) lp sz d (some (.int (v : Nat))) none none) S1 = .ok (decide (((v : Nat) : Int) = k)) S1 := fun k => rfl
    by_cases v0 : v = 0
    · subst v0
      obtain ⟨w, S2, e2, hw, r2, l2, f2⟩ := draw_at (ns := ns) (many := 9) r1 (by omega) (by decide) (by decide)
      refine ws_seq (ws_yes (Ok.of (a := true) (S := S1) rfl ⟨rfl, ws_ret (Ok.of (a := valD (.num ((w : Nat) - 4))) (S := S2) (tup_ok (cons_ok rfl (cons_ok (m2_ok (call_ok rfl rfl e2) rfl rfl) rfl)) (by simp)) ?_)⟩))
      rw [gc_same (by omega)]
      exact Ok.ret ⟨.num ((w : Nat) - 4), c + 2, rfl, ⟨by omega, by omega⟩, by simp [dpt], r2, by omega, by omega, hz1.same fx fun i i1 _ => f2 i i1, fun i i1 _ _ => by rw [f2 i i1, f1 i i1]⟩
    refine ws_seq (ws_no (Ok.of (a := false) (S := S1) (by rw [eqv 0, decide_eq_false (by omega)]) ⟨rfl, ws_nil ?_⟩))
    by_cases v1 : v = 1
    · subst v1
      obtain ⟨w, S2, e2, hw, r2, l2, f2⟩ := draw_at (ns := ns) (many := ls.length) r1 (by omega) fx.h1 (by have := fx.h3; omega)
      obtain ⟨l, hl⟩ : ∃ l, ls[w]? = some l := ⟨ls[w], List.getElem?_eq_getElem hw⟩
      have hlen : fLen [.ref lp] S1 = .ok (.int (ls.length : Nat)) S1 := by rw [len_lst hlp1, List.length_map]
      have hlp2 : S2[lp]? = some (.lst (ls.map lopD)) := by rw [f2 lp fx.lp2]; exact hlp1
      have hix : opIx (.ref lp) (.int (w : Nat)) S2 = .ok (lopD l) S2 := ix_lst hlp2 (by rw [atI_nat (by rw [List.length_map]; exact hw), List.getElem?_map, hl]; rfl)
      refine ws_seq (ws_yes (Ok.of (a := true) (S := S1) rfl ⟨rfl, ws_ret (Ok.of (a := valD (.lop l.x)) (S := S2) (tup_ok (cons_ok rfl (cons_ok (m2_ok (m2_ok rfl (call_ok (cons_ok rfl (cons_ok rfl (cons_ok (n1_ok rfl hlen) rfl))) rfl e2) hix) rfl rfl) rfl)) (by simp)) ?_)⟩))
      rw [gc_same (by omega)]
      exact Ok.ret ⟨.lop l.x, c + 2, rfl, List.mem_map.mpr ⟨l, List.mem_of_getElem? hl, rfl⟩, by simp [dpt], r2, by omega, by omega, hz1.same fx fun i i1 _ => f2 i i1, fun i i1 _ _ => by rw [f2 i i1, f1 i i1]⟩
    refine ws_seq (ws_no (Ok.of (a := false) (S := S1) (by rw [eqv 1, decide_eq_false (by omega)]) ⟨rfl, ws_nil ?_⟩))
    have ltv : tB (m2 opLt (mV 5) (mC (.int 4))) (EV ns (B.length + 1) lp sz d (some (.int (v : Nat))) none none) S1 = .ok (decide (((v : Nat) : Int) < 4)) S1 := rfl
    by_cases v4 : v < 4
    · obtain ⟨t, ps, S2, c2, e2, ht, hs, r2, hc2, l2, z2, f2⟩ := an_at_ok (ns := ns) r1 (by omega) hlp1 fx.lp2 fx.h1 fx.h3 fx.gl hz1 fx.sz2 fx.la2 fx.lb2 fx.m1 fx.m2 fx.m3 fx.m4
      refine ws_seq (ws_yes (Ok.of (a := true) (S := S1) (by rw [ltv, decide_eq_true (by omega)]) ⟨rfl, ws_ret (Ok.of (a := valD (.at t ps)) (S := S2) (m2_ok (tup_ok (cons_ok rfl rfl) (by simp)) (call_ok rfl rfl e2) (by rw [add_tup, if_pos (by have : (1000000 : Nat) ≤ sizeLine := (by decide); simp; omega)]; rfl)) ?_)⟩))
      rw [gc_same (by omega)]
      exact Ok.ret ⟨.at t ps, c2, rfl, ⟨ht, hs⟩, by simp [dpt], r2, by omega, by omega, z2, fun i i1 i2 i3 => by rw [f2 i i1 i2 i3, f1 i i1]⟩
    refine ws_seq (ws_no (Ok.of (a := false) (S := S1) (by rw [ltv, decide_eq_false (by omega)]) ⟨rfl, ws_nil ?_⟩))
    obtain ⟨d, rfl⟩ : ∃ e, d = e + 1 := ⟨d - 1, by omega⟩
    have hkk : kv (d + 1) = 2 * kv d + 5 := rfl
    have hk0 := kv_40 d
    have r2 : Rdy B (S1 ++ [.lst [.str "sum", .str "less", .str "times", .str "most"]]) (c + 1) := r1.snoc rfl
    obtain ⟨u, S3, e3, hu, r3, l3, f3⟩ := draw_at (ns := ns) (many := 4) r2 (by omega) (by decide) (by decide)
    rw [List.length_append, List.length_singleton] at l3
    have hS2 := r1.two
    have g3 : S3[S1.length]? = some (.lst [.str "sum", .str "less", .str "times", .str "most"]) := by rw [f3 _ hS2]; exact get_end ..
    obtain ⟨w, hw, pw⟩ : ∃ w : Str, opIx (.ref S1.length) (.int (u : Nat)) S3 = .ok (.str w) S3 ∧ Pw w := by
      have : u = 0 ∨ u = 1 ∨ u = 2 ∨ u = 3 := by omega
      rcases this with rfl | rfl | rfl | rfl
      · exact ⟨"sum", ix_lst g3 rfl, .inl rfl⟩
      · exact ⟨"less", ix_lst g3 rfl, .inr (.inl rfl)⟩
      · exact ⟨"times", ix_lst g3 rfl, .inr (.inr (.inl rfl))⟩
      · exact ⟨"most", ix_lst g3 rfl, .inr (.inr (.inr rfl))⟩
    refine ws_seq (ws_asg (Ok.of (m2_ok (lst_ok rfl (by simp)) (call_ok rfl rfl e3) hw) (Ok.of (a := EV ns (B.length + 1) lp sz (d + 1) (some (.int (v : Nat))) (some (.str w)) none) rfl ?_)))
    have old3 : ∀ i, B.length + 2 ≤ i → i < S.length → S3[i]? = S[i]? := fun i i1 i2 => by rw [f3 i i1, List.getElem?_append_left (by omega), f1 i i1]
    have hz3 : Sz S3 sz la lb z := hz.same fx old3
    have hlp3 : S3[lp]? = some (.lst (ls.map lopD)) := by rw [old3 lp fx.lp2 hlpl]; exact hlp
    have esub : ∀ S' : Sto, opSub (.int ((d + 1 : Nat) : Int)) (.int 1) S' = .ok (.int (d : Nat)) S' := fun S' => by
      show Rs.ok (D.int (((d + 1 : Nat) : Int) - 1)) S' = _
      congr 2
      omega
    obtain ⟨_, S4, e4, a, c4, rfl, ga, da, r4, hc4, l4, z4, f4⟩ := (a_value_ok fx n d (z := z) (by omega) (by omega) r3 (by omega) hlp3 hz3).get
    refine ws_seq (ws_asg (Ok.of (call_ok (cons_ok rfl (cons_ok rfl (cons_ok rfl (cons_ok rfl (cons_ok (m2_ok rfl rfl (esub _)) rfl))))) rfl e4) (Ok.of (a := EV ns (B.length + 1) lp sz (d + 1) (some (.int (v : Nat))) (some (.str w)) (some (valD a))) rfl ?_)))
    have old4 : ∀ i, B.length + 2 ≤ i → i < S.length → i ≠ la → i ≠ lb → S4[i]? = S[i]? := fun i i1 i2 i3 i4 => by rw [f4 i i1 i3 i4, old3 i i1 i2]
    have hlp4 : S4[lp]? = some (.lst (ls.map lopD)) := by rw [f4 lp fx.lp2 fx.m1 fx.m2]; exact hlp3
    have eqw : tB (m2 opEq (mV 6) (mC (.str "times"))) (EV ns (B.length + 1) lp sz (d + 1) (some (.int (v : Nat))) (some (.str w)) (some (valD a))) S4 = .ok (decide (w = "times")) S4 := rfl
    have hlal := (List.getElem?_eq_some_iff.mp hz.a).1
    have hlbl := (List.getElem?_eq_some_iff.mp hz.b).1
    have hszl := (List.getElem?_eq_some_iff.mp hz.d).1
    -- the end of both roads
    have fin : ∀ {b : Val} {S5 : Sto} {c5 : Nat}, GVl ls b → dpt b ≤ d + 1 → (w = "times" → ∃ i, b = .num i) → Rdy B S5 c5 → c5 ≤ c + kv (d + 1) → S5.length = S4.length → Sz S5 sz la lb (updV ls (updV ls z a) b) → (∀ i, B.length + 2 ≤ i → i < S.length → i ≠ la → i ≠ lb → S5[i]? = S[i]?) →
        Ok (gc S.length (valD (.two w a b)) S5) (AV B sz la lb ls (d + 1) S c z) := fun {b S5 c5} gb db hb r5 hc5 l5 z5 f5 => by
      obtain ⟨hlowc, r6⟩ := Rdy.cut h r5 (by omega) fun i i1 i2 => by
        by_cases i3 : i = la
        · subst i3
          exact .inr ⟨_, z5.a, lowDs_ints⟩
        by_cases i4 : i = lb
        · subst i4
          exact .inr ⟨_, z5.b, lowDs_ints⟩
        exact .inl (f5 i i1 i2 i3 i4)
      have tk : ∀ i, i < S.length → (S5.take S.length)[i]? = S5[i]? := fun i hi => by rw [List.getElem?_take, if_pos hi]
      unfold gc
      rw [val_low, hlowc]
      simp only [Bool.and_self, if_true]
      refine Ok.ret ⟨.two w a b, c5, rfl, ⟨pw, ga, gb, hb⟩, by simp only [dpt]; omega, r6, hc5, by rw [List.length_take]; omega, ?_, fun i i1 i2 i3 => ?_⟩
      · exact ⟨by rw [tk _ hszl]; exact z5.d, by rw [tk _ hlal]; exact z5.a, by rw [tk _ hlbl]; exact z5.b, z5.ne, z5.l1, z5.l2⟩
      · by_cases i4 : i < S.length
        · rw [tk i i4, f5 i i1 i4 i2 i3]
        · rw [List.getElem?_eq_none (by rw [List.length_take]; omega), List.getElem?_eq_none (by omega)]
    by_cases wt : w = "times"
    · obtain ⟨x, S5, e5, hx, r5, l5, f5⟩ := draw_at (ns := ns) (many := 9) r4 (by omega) (by decide) (by decide)
      refine ws_seq (ws_yes (Ok.of (a := true) (S := S4) (by rw [eqw, decide_eq_true wt]) ⟨rfl, ws_ret (Ok.of (a := valD (.two w a (.num ((x : Nat) - 4)))) (S := S5) (tup_ok (cons_ok rfl (cons_ok rfl (cons_ok (tup_ok (cons_ok rfl (cons_ok (m2_ok (call_ok rfl rfl e5) rfl rfl) rfl)) (by simp)) rfl))) (by simp)) ?_)⟩))
      exact fin (b := .num ((x : Nat) - 4)) ⟨by omega, by omega⟩ (by simp [dpt]) (fun _ => ⟨_, rfl⟩) r5 (by omega) l5 (z4.same fx fun i i1 _ => f5 i i1) fun i i1 i2 i3 i4 => by rw [f5 i i1, old4 i i1 i2 i3 i4]
    refine ws_seq (ws_no (Ok.of (a := false) (S := S4) (by rw [eqw, decide_eq_false wt]) ⟨rfl, ws_nil ?_⟩))
    obtain ⟨_, S5, e5, b, c5, rfl, gb, db, r5, hc5, l5, z5, f5⟩ := (a_value_ok fx n d (by omega) (by omega) r4 (by omega) hlp4 z4).get
    refine ws_ret (Ok.of (a := valD (.two w a b)) (S := S5) (tup_ok (cons_ok rfl (cons_ok rfl (cons_ok (call_ok (cons_ok rfl (cons_ok rfl (cons_ok rfl (cons_ok rfl (cons_ok (m2_ok rfl rfl (esub _)) rfl))))) rfl e5) rfl))) (by simp)) ?_)
    exact fin gb (by omega) (fun hh => (wt hh).elim) r5 (by omega) l5 z5 fun i i1 i2 i3 i4 => by rw [f5 i i1 i3 i4, old4 i i1 i2 i3 i4]
end
end K02
end M

namespace M
namespace K02
open PySem L2
/-! ### a drawn nest -/
structure GLd (l : NLoop) : Prop where
  a : -1 ≤ l.lo ∧ l.lo ≤ 2
  b : l.st = 1 ∨ l.st = 2
  c : ∃ k : Nat, k ≤ 2 ∧ l.hi = l.lo + l.st * (k : Nat) + 1
theorem GLd.gl {l : NLoop} (h : GLd l) : GL l ∧ (lvals l).length < 100 := by
  obtain ⟨k, hk, e⟩ := h.c
  have h1 := h.a
  have h2 : l.lo < l.hi ∧ l.hi ≤ l.lo + 5 := by
    rcases h.b with hb | hb <;> rw [hb] at e <;> omega
  have h3 : 1 ≤ l.st ∧ l.st ≤ 2 := by rcases h.b with hb | hb <;> omega
  refine ⟨⟨by omega, h2.1, by omega, h3.1, by omega⟩, ?_⟩
  rw [lvals_len]
  have := rgN_le (i := l.lo) (j := l.hi) h3.1
  omega
structure GStm (ls : List NLoop) (s : Stm) : Prop where
  w : s.w = "set" ∨ s.w = "add"
  t : s.t = "a" ∧ s.ps.length = 1 ∨ s.t = "b" ∧ s.ps.length = 2
  ps : ∀ q ∈ s.ps, GSum ls q
  v : GVl ls s.v
  d : dpt s.v ≤ 3
def updS (ls : List NLoop) (z : List Int × List Int) (s : Stm) : List Int × List Int := upd ls (updV ls z s.v) s.t s.ps
def tabsOf (z : List Int × List Int) : List (Str × List Int) := [("a", z.1), ("b", z.2)]
def ijk : List Str := ["i", "j", "k"]
structure Drawn (N : Nest) : Prop where
  nm : ∃ m, 1 ≤ m ∧ m ≤ 3 ∧ N.loops.map (·.x) = (ijk.take m)
  gl : ∀ l ∈ N.loops, GLd l
  b1 : 1 ≤ N.body.length
  b2 : N.body.length ≤ 2
  st : ∀ s ∈ N.body, GStm N.loops s
  tb : N.tabs = tabsOf (N.body.foldl (updS N.loops) ([1], [1, 1]))
theorem lowDs_app {n : Nat} : ∀ {a b : List D}, lowDs n a = true → lowDs n b = true → lowDs n (a ++ b) = true
  | [], _, _, h => h
  | x :: r, b, h, h2 => by
    rw [List.cons_append, lowDs, Bool.and_eq_true] at *
    exact ⟨h.1, lowDs_app h.2 h2⟩
theorem app_lst {S : Sto} {n : Nat} {ds : List D} {d : D} (h : S[n]? = some (.lst ds)) (hl : ds.length ≤ 1000) : fAppend (.ref n) [d] S = .ok .non (S.set n (.lst (ds ++ [d]))) := by
  have hz : (1000000 : Nat) ≤ sizeLine := by decide
  unfold fAppend
  simp only [h]
  rw [if_pos (by omega)]
theorem oS_ok {m : En → Sto → Rs D} {E : En} {S S1 : Sto} {i : Int} (h : m E S = .ok (.int i) S1) : oSome m E S = .ok (some i) S1 := by
  unfold oSome; rw [h]; rfl
theorem sl_ok {m : En → Sto → Rs D} {lo hi : En → Sto → Rs (Option Int)} {E : En} {S S1 S2 S3 : Sto} {x : D} {l u : Option Int} {r : Rs D} (h1 : m E S = .ok x S1) (h2 : lo E S1 = .ok l S2) (h3 : hi E S2 = .ok u S3) (h4 : fSl x l u S3 = r) : mSl m lo hi E S = r := by
  unfold mSl; rw [h1, bind_ok, h2, bind_ok, h3, bind_ok, h4]
theorem iA_ok {m : En → Sto → Rs D} {E : En} {S S1 : Sto} {x : D} {r : Rs AI} (h : m E S = .ok x S1) (h2 : aiOf x S1 = r) : iA m E S = r := by
  unfold iA; rw [h, bind_ok, h2]
section
variable {B S : Sto} {c : Nat} {ns : List Int} {ls : List NLoop}
abbrev EN (ns : List Int) (t : Nat) (lp nm k tb sz bd va fi st ta pl : Option D) : En := [some (.rl ns), some (.ref t), lp, nm, k, tb, sz, bd, va, fi, st, ta, pl]
theorem a_nest_1 {lp : Nat} {x : Str} {k tb sz bd va fi st ta pl : Option D} (h : Rdy B S c) (hc : c ≤ 8000) (hlp : S[lp]? = some (.lst (ls.map lopD))) (lp2 : B.length + 2 ≤ lp) (hl : ls.length ≤ 3) :
    WS (w__law_a_nest_2 (EN ns (B.length + 1) (some (.ref lp)) (some (.str x)) k tb sz bd va fi st ta pl) S) (fun E' S' => ∃ l fi' st', E' = EN ns (B.length + 1) (some (.ref lp)) (some (.str x)) k tb sz bd va fi' st' ta pl ∧ l.x = x ∧ GLd l ∧ Rdy B S' (c + 3) ∧ S'.length = S.length ∧ S'[lp]? = some (.lst ((ls ++ [l]).map lopD)) ∧ ∀ i, B.length + 2 ≤ i → i ≠ lp → S'[i]? = S[i]?) (fun _ _ => False) := by
  unfold w__law_a_nest_2
  obtain ⟨u, S1, e1, hu, r1, l1, f1⟩ := draw_at (ns := ns) (many := 4) h (by omega) (by decide) (by decide)
  obtain ⟨v, S2, e2, hv, r2, l2, f2⟩ := draw_at (ns := ns) (many := 5) r1 (by omega) (by decide) (by decide)
  obtain ⟨w, S3, e3, hw, r3, l3, f3⟩ := draw_at (ns := ns) (many := 3) r2 (by omega) (by decide) (by decide)
  obtain ⟨s, hs⟩ : ∃ s : Int, s = 1 + (v : Nat) / 4 := ⟨_, rfl⟩
  have hs12 : s = 1 ∨ s = 2 := by omega
  have hdiv : ∀ S' : Sto, opFdiv (.int (v : Nat)) (.int 4) S' = .ok (.int ((v : Nat) / 4)) S' := fun S' => by rw [fdiv_int, if_pos (by omega)]
  have hadd : ∀ S' : Sto, opAdd (.int 1) (.int ((v : Nat) / 4)) S' = .ok (.int s) S' := fun S' => by rw [add_int, hs]
  have hmul : ∀ S' : Sto, opMul (.int s) (.int (w : Nat)) S' = .ok (.int (s * (w : Nat))) S' := fun S' => mul_ok (by omega)
  refine ws_seq (ws_par (Ok.of (cons_ok (m2_ok (call_ok rfl rfl e1) rfl rfl) (cons_ok (m2_ok rfl (m2_ok (call_ok rfl rfl e2) rfl (hdiv _)) (hadd _)) rfl)) ⟨_, _, rfl, ?_⟩))
  have hlp3 : S3[lp]? = some (.lst (ls.map lopD)) := by rw [f3 lp lp2, f2 lp lp2, f1 lp lp2]; exact hlp
  have lpl := (List.getElem?_eq_some_iff.mp hlp3).1
  refine ws_expr (Ok.of (meth2_ok rfl (by rw [f2 lp lp2, f1 lp lp2]; exact hlp) (cons_ok (tup_ok (ds := [.str x, .int ((u : Nat) - 1), .int ((u : Nat) - 1 + s * (w : Nat) + 1), .int s]) (cons_ok rfl (cons_ok rfl (cons_ok (m2_ok (m2_ok rfl (m2_ok rfl (call_ok rfl rfl e3) (hmul _)) rfl) rfl rfl) (cons_ok rfl rfl)))) (by simp)) rfl) (app_lst hlp3 (by rw [List.length_map]; omega))) ?_)
  refine ⟨⟨x, (u : Nat) - 1, (u : Nat) - 1 + s * (w : Nat) + 1, s⟩, _, _, rfl, rfl, ⟨⟨by show (-1 : Int) ≤ (u : Nat) - 1; omega, by show ((u : Nat) : Int) - 1 ≤ 2; omega⟩, hs12, w, by omega, rfl⟩, r3.set lp2 (lowDs_app (lowDs_map fun _ _ => rfl) rfl), by rw [List.length_set]; omega, ?_, fun i i1 i2 => ?_⟩
  · rw [List.getElem?_set_self lpl, List.map_append]; rfl
  · rw [List.getElem?_set_ne (Ne.symm i2), f3 i i1, f2 i i1, f1 i i1]
theorem a_nest_2 {lp sz la lb bd : Nat} {nm k tb va fi st ta pl : Option D} {z : List Int × List Int} {bs : List Stm} (fx : Fx B lp sz la lb ls) (h : Rdy B S c) (hc : c ≤ 7000) (hlp : S[lp]? = some (.lst (ls.map lopD))) (hz : Sz S sz la lb z) (hb : S[bd]? = some (.lst (bs.map stmD))) (bl : bs.length ≤ 3) (bd2 : B.length + 2 ≤ bd) (n1 : bd ≠ la) (n2 : bd ≠ lb) (n3 : bd ≠ lp) (n4 : bd ≠ sz) :
    WS (w__law_a_nest_6 (EN ns (B.length + 1) (some (.ref lp)) nm k tb (some (.ref sz)) (some (.ref bd)) va fi st ta pl) S) (fun E' S' => ∃ s va' ta' pl' c', E' = EN ns (B.length + 1) (some (.ref lp)) nm k tb (some (.ref sz)) (some (.ref bd)) va' fi st ta' pl' ∧ GStm ls s ∧ Rdy B S' c' ∧ c' ≤ c + 250 ∧ S.length ≤ S'.length ∧ Sz S' sz la lb (updS ls z s) ∧ S'[bd]? = some (.lst ((bs ++ [s]).map stmD)) ∧ ∀ i, B.length + 2 ≤ i → i < S.length → i ≠ la → i ≠ lb → i ≠ bd → S'[i]? = S[i]?) (fun _ _ => False) := by
  have hk2 : kv 2 = 175 := rfl
  have hbl := (List.getElem?_eq_some_iff.mp hb).1
  unfold w__law_a_nest_6
  obtain ⟨_, S1, e1, v, c1, rfl, gv, dv, r1, hc1, l1, z1, f1⟩ := (a_value_ok (ns := ns) fx 8 2 (by omega) (by omega) h (by omega) hlp hz).get
  refine ws_seq (ws_asg (Ok.of (call_ok rfl rfl e1) (Ok.of (a := EN ns (B.length + 1) (some (.ref lp)) nm k tb (some (.ref sz)) (some (.ref bd)) (some (valD v)) fi st ta pl) rfl ?_)))
  have hlp1 : S1[lp]? = some (.lst (ls.map lopD)) := by rw [f1 lp fx.lp2 fx.m1 fx.m2]; exact hlp
  obtain ⟨t, ps, S2, c2, e2, ht, hs, r2, hc2, l2, z2, f2⟩ := an_at_ok (ns := ns) r1 (by omega) hlp1 fx.lp2 fx.h1 fx.h3 fx.gl z1 fx.sz2 fx.la2 fx.lb2 fx.m1 fx.m2 fx.m3 fx.m4
  refine ws_seq (ws_asg (Ok.of (call_ok rfl rfl e2) (Ok.of (a := EN ns (B.length + 1) (some (.ref lp)) nm k tb (some (.ref sz)) (some (.ref bd)) (some (valD v)) fi st (some (.str t)) (some (plcD ps))) rfl ?_)))
  have r3 : Rdy B (S2 ++ [.lst [.str "set", .str "add"]]) c2 := r2.snoc rfl
  obtain ⟨u, S4, e4, hu, r4, l4, f4⟩ := draw_at (ns := ns) (many := 2) r3 (by omega) (by decide) (by decide)
  rw [List.length_append, List.length_singleton] at l4
  have hS2 := r2.two
  have g4 : S4[S2.length]? = some (.lst [.str "set", .str "add"]) := by rw [f4 _ hS2]; exact get_end ..
  obtain ⟨w, hw, pw⟩ : ∃ w : Str, opIx (.ref S2.length) (.int (u : Nat)) S4 = .ok (.str w) S4 ∧ (w = "set" ∨ w = "add") := by
    have : u = 0 ∨ u = 1 := by omega
    rcases this with rfl | rfl
    · exact ⟨"set", ix_lst g4 rfl, .inl rfl⟩
    · exact ⟨"add", ix_lst g4 rfl, .inr rfl⟩
  have old2 : ∀ i, B.length + 2 ≤ i → i ≠ la → i ≠ lb → S2[i]? = S[i]? := fun i i1 i2 i3 => by rw [f2 i i1 i2 i3, f1 i i1 i2 i3]
  have hb2 : S2[bd]? = some (.lst (bs.map stmD)) := by rw [old2 bd bd2 n1 n2]; exact hb
  have f42 : ∀ i, B.length + 2 ≤ i → i < S2.length → S4[i]? = S2[i]? := fun i i1 i2 => by rw [f4 i i1, List.getElem?_append_left i2]
  have hb4 : S4[bd]? = some (.lst (bs.map stmD)) := by rw [f42 bd bd2 (by omega)]; exact hb2
  have z4 : Sz S4 sz la lb (upd ls (updV ls z v) t ps) := z2.same fx f42
  have bdl := (List.getElem?_eq_some_iff.mp hb4).1
  refine ws_expr (Ok.of (meth2_ok rfl hb2 (cons_ok (tup_ok (ds := [.str w, .str t, plcD ps, valD v]) (cons_ok (m2_ok (lst_ok rfl (by simp)) (call_ok rfl rfl e4) hw) (cons_ok rfl (cons_ok rfl (cons_ok rfl rfl)))) (by simp)) rfl) (app_lst hb4 (by rw [List.length_map]; omega))) ?_)
  have slow : ∀ {n : Nat} {s : Stm}, lowD n (stmD s) = true := fun {n s} => by
    show (true && (true && (lowD n (plcD s.ps) && (lowD n (valD s.v) && true)))) = true
    rw [plc_low, val_low]; rfl
  refine ⟨⟨w, t, ps, v⟩, _, _, _, c2 + 1, rfl, ⟨pw, ht, hs, gv, dv⟩, r4.set bd2 ?_, by omega, by rw [List.length_set]; omega, ?_, ?_, fun i i1 i2 i3 i4 i5 => ?_⟩
  · exact lowDs_app (lowDs_map fun _ _ => slow) (lowDs_map (f := stmD) (xs := [⟨w, t, ps, v⟩]) fun _ _ => slow)
  · exact ⟨by rw [List.getElem?_set_ne n4]; exact z4.d, by rw [List.getElem?_set_ne n1]; exact z4.a, by rw [List.getElem?_set_ne n2]; exact z4.b, z4.ne, z4.l1, z4.l2⟩
  · rw [List.getElem?_set_self bdl, List.map_append]; rfl
  · rw [List.getElem?_set_ne (Ne.symm i5), f42 i i1 (by omega), old2 i i1 i3 i4]
end
end K02
end M

namespace M
namespace K02
open PySem L2
/-! ### the drawn nest -/
section
variable {B S : Sto} {c : Nat} {ns : List Int}
theorem merge_ab {x y : D} : mergeD [] [((.inr "a" : Key), x), (.inr "b", y)] = [(.inr "a", x), (.inr "b", y)] := by
  show setK (setK [] (.inr "a") x) (.inr "b") y = _
  have e1 : setK [] (.inr "a") x = [((.inr "a" : Key), x)] := rfl
  rw [e1]
  unfold setK
  rw [if_neg]
  · rfl
  · rw [List.any_cons, decide_eq_false (p := ((.inr "a" : Key), x).1 = .inr "b") (show ¬ ((.inr "a" : Key) = .inr "b") by decide)]; simp
theorem nest_low {n : Nat} {N : Nest} : lowD n (nestD N) = true := by
  have e1 : lowDs n (N.tabs.map tabD) = true := lowDs_map fun t _ => by
    show (true && (lowDs n (t.2.map .int) && true)) = true
    rw [lowDs_ints]; rfl
  have e2 : lowDs n (N.loops.map lopD) = true := lowDs_map fun _ _ => rfl
  have e3 : lowDs n (N.body.map stmD) = true := lowDs_map fun s _ => by
    show (true && (true && (lowD n (plcD s.ps) && (lowD n (valD s.v) && true)))) = true
    rw [plc_low, val_low]; rfl
  show (lowDs n (N.tabs.map tabD) && (lowDs n (N.loops.map lopD) && (lowDs n (N.body.map stmD) && true))) = true
  rw [e1, e2, e3]; rfl
theorem a_nest_ok (h : Rdy B S c) (hc : c ≤ 5000) : ∃ N S' c', m__law_a_nest [.rl ns, .ref (B.length + 1)] S = .ok (nestD N) S' ∧ Drawn N ∧ Rdy B S' c' ∧ c' ≤ c + 600 ∧ S'.length = S.length ∧ ∀ i, B.length + 2 ≤ i → S'[i]? = S[i]? := by
  have hzl : (1000000 : Nat) ≤ sizeLine := by decide
  have hS2 := h.two
  suffices hh : Ok (m__law_a_nest [.rl ns, .ref (B.length + 1)] S) (fun d S' => ∃ N c', d = nestD N ∧ Drawn N ∧ Rdy B S' c' ∧ c' ≤ c + 600 ∧ S'.length = S.length ∧ ∀ i, B.length + 2 ≤ i → S'[i]? = S[i]?) by
    obtain ⟨d, S', e, N, c', rfl, q⟩ := hh.get
    exact ⟨N, S', c', e, q⟩
  unfold m__law_a_nest b__law_a_nest
  refine ok_mdef (ws_seq (ws_asg (Ok.of (lst_ok (ds := []) rfl (by decide)) (Ok.of (a := EN ns (B.length + 1) (some (.ref S.length)) none none none none none none none none none none) rfl ?_))))
  have r0 : Rdy B (S ++ [.lst []]) c := h.snoc rfl
  obtain ⟨v, S1, e1, hv, r1, l1, f1⟩ := draw_at (ns := ns) (many := 3) r0 (by omega) (by decide) (by decide)
  rw [List.length_append, List.length_singleton] at l1
  have g1 : S1[S.length]? = some (.lst (([] : List NLoop).map lopD)) := by rw [f1 _ hS2]; exact get_end ..
  have old1 : ∀ i, B.length + 2 ≤ i → i < S.length → S1[i]? = S[i]? := fun i i1 i2 => by rw [f1 i i1, List.getElem?_append_left i2]
  have hadd : ∀ S' : Sto, opAdd (.int 1) (.int (v : Nat)) S' = .ok (.int ((1 + v : Nat) : Int)) S' := fun S' => by rw [add_int]; congr 2
  have hcut : cutD [D.str "i", .str "j", .str "k"] none (some ((1 + v : Nat) : Int)) = (ijk.take (1 + v)).map .str := by
    have : v = 0 ∨ v = 1 ∨ v = 2 := by omega
    rcases this with rfl | rfl | rfl <;> rfl
  refine ws_seq (ws_for (items := (ijk.take (1 + v)).map .str) (gd := fun _ => True) (S1 := S1) (fun i E S' => ∃ ls nm fi st, E = EN ns (B.length + 1) (some (.ref S.length)) nm none none none none none fi st none none ∧ ls.map (·.x) = (ijk.take (1 + v)).take i ∧ (∀ l ∈ ls, GLd l) ∧ Rdy B S' (c + 1 + 3 * i) ∧ S'.length = S.length + 1 ∧ S'[S.length]? = some (.lst (ls.map lopD)) ∧ ∀ j, B.length + 2 ≤ j → j < S.length → S'[j]? = S[j]?)
    (iA_ok (sl_ok (x := .tup [.str "i", .str "j", .str "k"]) (l := none) rfl rfl (oS_ok (m2_ok rfl (call_ok rfl rfl e1) (hadd _))) (r := .ok (.tup ((ijk.take (1 + v)).map .str)) S1) (by rw [← hcut]; rfl)) rfl) ⟨[], none, none, none, rfl, rfl, fun l hl => (List.not_mem_nil hl).elim, r1, l1, g1, old1⟩ (fun _ _ _ _ => trivial) ?_ ?_)
  · rintro i dd E S' hi ⟨ls, nm, fi, st, rfl, q1, q2, q3, q4, q5, q6⟩
    obtain ⟨x, hx, rfl⟩ := map_get hi
    have hi3 : i < (ijk.take (1 + v)).length := (List.getElem?_eq_some_iff.mp hx).1
    rw [List.length_take] at hi3
    have hlen : ls.length ≤ i := by
      have : (ls.map (·.x)).length = ((ijk.take (1 + v)).take i).length := by rw [q1]
      rw [List.length_map, List.length_take] at this
      omega
    refine Ok.of (a := EN ns (B.length + 1) (some (.ref S.length)) (some (.str x)) none none none none none fi st none none) (S := S') rfl ?_
    refine (a_nest_1 q3 (by omega) q5 hS2 (by omega)).mono ?_ (fun _ _ z => z.elim)
    rintro E2 S2 ⟨l, fi', st', rfl, p1, p2, p3, p4, p5, p6⟩
    refine ⟨ls ++ [l], _, _, _, rfl, ?_, fun u hu => ?_, p3, by omega, p5, fun j j1 j2 => by rw [p6 j j1 (by omega)]; exact q6 j j1 j2⟩
    · rw [List.map_append, q1, take_succ_get hx, ← p1]; rfl
    · rcases List.mem_append.mp hu with hu | hu
      · exact q2 u hu
      · simp at hu; rw [hu]; exact p2
  rintro E S' ⟨ls, nm, fi, st, rfl, q1, q2, q3, q4, q5, q6⟩
  have i3 : (ijk.take (1 + v)).length = 1 + v := by
    rw [List.length_take]
    show min (1 + v) 3 = 1 + v
    omega
  rw [List.length_map, i3] at q1 q3
  have q1' : ls.map (·.x) = ijk.take (1 + v) := by rw [q1, List.take_take, Nat.min_self]
  have hll : ls.length = 1 + v := by
    rw [← i3, ← q1', List.length_map]
  -- the sizes and the body
  obtain ⟨Sd, hSd⟩ : ∃ Sd, Sd = S' ++ [O.lst [.int 1]] ++ [O.lst [.int 1, .int 1]] ++ [O.dk [(.inr "a", .ref (S.length + 1)), (.inr "b", .ref (S.length + 2))]] ++ [O.lst []] := ⟨_, rfl⟩
  have hdisp : ∀ E : En, mDisp [(mC (.str "a"), mLst (aCons (mC (.int 1)) (aNil))), (mC (.str "b"), mLst (aCons (mC (.int 1)) (aCons (mC (.int 1)) (aNil))))] E S' = .ok (.ref (S.length + 3)) (S' ++ [O.lst [.int 1]] ++ [O.lst [.int 1, .int 1]] ++ [O.dk [(.inr "a", .ref (S.length + 1)), (.inr "b", .ref (S.length + 2))]]) := fun E => by
    have e : dPairs [(mC (.str "a"), mLst (aCons (mC (.int 1)) (aNil))), (mC (.str "b"), mLst (aCons (mC (.int 1)) (aCons (mC (.int 1)) (aNil))))] E S' = .ok [(.inr "a", .ref S'.length), (.inr "b", .ref (S' ++ [O.lst [.int 1]]).length)] (S' ++ [O.lst [.int 1]] ++ [O.lst [.int 1, .int 1]]) := rfl
    unfold mDisp
    rw [e, bind_ok, if_pos (by simp), merge_ab]
    have a1 : (S' ++ [O.lst [.int 1]]).length = S.length + 2 := by rw [List.length_append, q4]; rfl
    have a2 : (S' ++ [O.lst [.int 1]] ++ [O.lst [.int 1, .int 1]]).length = S.length + 3 := by rw [List.length_append, a1]; rfl
    rw [a1, a2, q4]
  have a3 : (S' ++ [O.lst [.int 1]] ++ [O.lst [.int 1, .int 1]] ++ [O.dk [(.inr "a", .ref (S.length + 1)), (.inr "b", .ref (S.length + 2))]]).length = S.length + 4 := by simp [q4]
  have hld : Sd.length = S.length + 5 := by rw [hSd]; simp [q4]
  refine ws_seq (ws_asg (Ok.of (a := .tup [.ref (S.length + 3), .ref (S.length + 4)]) (S := Sd) (tup_ok (cons_ok (hdisp _) (cons_ok (by rw [lst_ok (ds := []) rfl (by decide), a3, ← hSd]) rfl)) (by simp)) (Ok.of (a := EN ns (B.length + 1) (some (.ref S.length)) nm none none (some (.ref (S.length + 3))) (some (.ref (S.length + 4))) none fi st none none) rfl ?_)))
  have rd : Rdy B Sd (c + 1 + 3 * (1 + v)) := by
    rw [hSd]
    refine Rdy.snoc (Rdy.snoc (Rdy.snoc (Rdy.snoc q3 rfl) rfl) ?_) rfl
    show lowDs _ [.ref (S.length + 1), .ref (S.length + 2)] = true
    simp [lowDs, lowD, q4]
  have oldd : ∀ i, i < S.length + 1 → Sd[i]? = S'[i]? := fun i hi => by
    rw [hSd, List.getElem?_append_left (by simp; omega), List.getElem?_append_left (by simp; omega), List.getElem?_append_left (by simp; omega), List.getElem?_append_left (by omega)]
  have zd : Sz Sd (S.length + 3) (S.length + 1) (S.length + 2) ([1], [1, 1]) := by
    refine ⟨?_, ?_, ?_, by omega, rfl, rfl⟩ <;> rw [hSd] <;> simp [q4, List.getElem?_append]
  have hbd : Sd[S.length + 4]? = some (.lst (([] : List Stm).map stmD)) := by rw [hSd]; simp [q4, List.getElem?_append]
  have hlpd : Sd[S.length]? = some (.lst (ls.map lopD)) := by rw [oldd _ (by omega)]; exact q5
  have fx : Fx B S.length (S.length + 3) (S.length + 1) (S.length + 2) ls := ⟨hS2, by omega, by omega, fun l hl => (q2 l hl).gl, by omega, by omega, by omega, by omega, by omega, by omega, by omega⟩
  obtain ⟨w, S3, e3, hw, r3, l3, f3⟩ := draw_at (ns := ns) (many := 2) rd (by omega) (by decide) (by decide)
  have hadd2 : ∀ S' : Sto, opAdd (.int 1) (.int (w : Nat)) S' = .ok (.int ((1 + w : Nat) : Int)) S' := fun S' => by rw [add_int]; congr 2
  refine ws_seq (ws_for (items := rangeD 0 ((1 + w : Nat) : Int)) (gd := fun _ => True) (fun i E S4 => ∃ bs k va ta pl c', E = EN ns (B.length + 1) (some (.ref S.length)) nm k none (some (.ref (S.length + 3))) (some (.ref (S.length + 4))) va fi st ta pl ∧ bs.length = i ∧ (∀ s ∈ bs, GStm ls s) ∧ Rdy B S4 c' ∧ c' ≤ c + 20 + 250 * i ∧ S.length + 5 ≤ S4.length ∧ Sz S4 (S.length + 3) (S.length + 1) (S.length + 2) (bs.foldl (updS ls) ([1], [1, 1])) ∧ S4[S.length + 4]? = some (.lst (bs.map stmD)) ∧ S4[S.length]? = some (.lst (ls.map lopD)) ∧ ∀ j, B.length + 2 ≤ j → j < S.length → S4[j]? = S[j]?)
    (r1_at (t := aCons (m2 opAdd (mC (.int 1)) (mN (mCl 3 m__law_draw) (aCons (mV 0) (aCons (mV 1) (aCons (mC (.int 2)) (aNil)))))) (aNil)) (n := 1 + w) (cons_ok (m2_ok rfl (call_ok rfl rfl e3) (hadd2 _)) rfl) (by omega)) ⟨[], none, none, none, none, _, rfl, rfl, fun s hs => (List.not_mem_nil hs).elim, r3, by omega, by omega, zd.same fx fun i i1 _ => f3 i i1, by rw [f3 _ (by omega)]; exact hbd, by rw [f3 _ hS2]; exact hlpd, fun j j1 j2 => by rw [f3 j j1, oldd j (by omega)]; exact q6 j j1 j2⟩ (fun _ _ _ _ => trivial) ?_ ?_)
  · rintro i dd E S4 hi ⟨bs, k, va, ta, pl, c', rfl, rfl, p1, p2, p3, p4, p5, p6, p7, p8⟩
    obtain ⟨hi2, rfl⟩ := range_get hi
    refine Ok.of (a := EN ns (B.length + 1) (some (.ref S.length)) nm (some (.int (bs.length : Nat))) none (some (.ref (S.length + 3))) (some (.ref (S.length + 4))) va fi st ta pl) (S := S4) rfl ?_
    refine (a_nest_2 fx p2 (by omega) p7 p5 p6 (by omega) (by omega) (by omega) (by omega) (by omega) (by omega)).mono ?_ (fun _ _ z => z.elim)
    rintro E2 S5 ⟨s, va', ta', pl', c2, rfl, o1, o2, o3, o4, o5, o6, o7⟩
    refine ⟨bs ++ [s], _, _, _, _, c2, rfl, by simp, fun u hu => ?_, o2, by omega, by omega, by rw [List.foldl_append]; exact o5, o6, by rw [o7 _ hS2 (by omega) (by omega) (by omega) (by omega)]; exact p7, fun j j1 j2 => by rw [o7 j j1 (by omega) (by omega) (by omega) (by omega)]; exact p8 j j1 j2⟩
    rcases List.mem_append.mp hu with hu | hu
    · exact p1 u hu
    · simp at hu; rw [hu]; exact o1
  rintro E S4 ⟨bs, k, va, ta, pl, c', rfl, pn, p1, p2, p3, p4, p5, p6, p7, p8⟩
  rw [range_len] at pn p3
  obtain ⟨z, hz⟩ : ∃ z, z = bs.foldl (updS ls) ([1], [1, 1]) := ⟨_, rfl⟩
  rw [← hz] at p5
  have hcomp : mComp (iA (mTup (aCons (mC (.str "a")) (aCons (mC (.str "b")) (aNil))))) [3] (gN 3) (tYesM) (mTup (aCons (mV 3) (aCons (mN fTup (aCons (m2 opIx (mV 6) (mV 3)) (aNil))) (aNil)))) (EN ns (B.length + 1) (some (.ref S.length)) nm k none (some (.ref (S.length + 3))) (some (.ref (S.length + 4))) va fi st ta pl) S4 = .ok ((tabsOf z).map tabD) S4 := by
    refine mComp_all (xs := tabsOf z) (fun t => .str t.1) tabD (gd := fun _ => True) rfl trivial (fun t ht => ?_) (by show 2 ≤ _; omega)
    have : t = ((("a" : Str), z.1) : Str × List Int) ∨ t = ((("b" : Str), z.2) : Str × List Int) := by simpa [tabsOf] using ht
    rcases this with rfl | rfl
    · exact body_yes rfl (tup_ok (cons_ok rfl (cons_ok (n1_ok (m2_ok rfl rfl (ix_dk p5.d rfl (by kernel_rfl))) (tup_lst p5.a)) rfl)) (by simp))
    · exact body_yes rfl (tup_ok (cons_ok rfl (cons_ok (n1_ok (m2_ok rfl rfl (ix_dk p5.d rfl (by kernel_rfl))) (tup_lst p5.b)) rfl)) (by simp))
  refine ws_seq (ws_asg (Ok.of (tl_ok hcomp rfl) (Ok.of (a := EN ns (B.length + 1) (some (.ref S.length)) nm k (some (.ptp ((tabsOf z).map tabD))) (some (.ref (S.length + 3))) (some (.ref (S.length + 4))) va fi st ta pl) rfl ?_)))
  refine ws_ret (Ok.of (a := nestD ⟨tabsOf z, ls, bs⟩) (S := S4) (tup_ok (cons_ok rfl (cons_ok (n1_ok rfl (tup_lst p7)) (cons_ok (n1_ok rfl (tup_lst p6)) rfl))) (by simp)) ?_)
  obtain ⟨hlowc, r6⟩ := Rdy.cut h p2 (by omega) fun i i1 i2 => .inl (p8 i i1 i2)
  unfold gc
  rw [nest_low, hlowc]
  simp only [Bool.and_self, if_true]
  refine Ok.ret ⟨⟨tabsOf z, ls, bs⟩, c', rfl, ⟨⟨1 + v, by omega, by omega, q1'⟩, q2, by show 1 ≤ bs.length; omega, by show bs.length ≤ 2; omega, p1, by rw [hz]⟩, r6, by omega, by rw [List.length_take]; omega, fun i i1 => ?_⟩
  by_cases i4 : i < S.length
  · rw [List.getElem?_take, if_pos i4]; exact p8 i i1 i4
  · rw [List.getElem?_eq_none (by rw [List.length_take]; omega), List.getElem?_eq_none (by omega)]
end
end K02
end M

namespace M
namespace K02
open PySem L2
/-! ### points, cells and reads of the law's own -/
def grow (rows : List (List Int)) (l : NLoop) : List (List Int) := rows.flatMap fun r => (lvals l).map fun v => r ++ [v]
def pts (ls : List NLoop) : List (List Int) := ls.foldl grow [[]]
theorem range_mul (a b : Nat) : List.range (a * b) = (List.range a).flatMap fun k => (List.range b).map fun j => k * b + j := by
  induction a with
  | zero => simp
  | succ a ih => rw [Nat.succ_mul, List.range_add, ih, List.range_succ, List.flatMap_append]; simp
theorem lvals_range (l : NLoop) : lvals l = (List.range (lvals l).length).map fun j => (lvals l).getD j 0 := by
  refine List.ext_getElem (by simp) fun i h1 h2 => ?_
  simp [h1]
theorem pts_snoc (ls : List NLoop) (l : NLoop) : pts (ls ++ [l]) = grow (pts ls) l := by unfold pts; rw [List.foldl_append]; rfl
theorem pts_pt : ∀ (n : Nat) {ls : List NLoop}, ls.length = n → (∀ l ∈ ls, GL l) → pts ls = (List.range (cntL ls)).map (pt ls)
  | 0, ls, h, _ => by
    have : ls = [] := List.eq_nil_of_length_eq_zero h
    subst this
    rfl
  | n + 1, ls, h, hg => by
    have hne : ls ≠ [] := fun e => by rw [e] at h; simp at h
    obtain ⟨r, l, rfl⟩ : ∃ r l, ls = r ++ [l] := ⟨_, _, (List.dropLast_concat_getLast hne).symm⟩
    have hp : 0 < (lvals l).length := (hg l (by simp)).pos
    rw [List.length_append, List.length_singleton] at h
    rw [pts_snoc, pts_pt n (by omega) (fun x hx => hg x (List.mem_append_left _ hx)), cntL_app]
    have e1 : cntL [l] = (lvals l).length := by simp [cntL]
    rw [e1, range_mul, List.map_flatMap]
    unfold grow
    rw [List.flatMap_map]
    congr 1
    funext k
    rw [List.map_map]
    conv => lhs; rw [lvals_range l]
    rw [List.map_map]
    refine List.map_congr_left fun j hj => ?_
    have hj := List.mem_range.mp hj
    show pt r k ++ [(lvals l).getD j 0] = pt (r ++ [l]) (k * (lvals l).length + j)
    rw [pt_snoc, Nat.mul_comm k, Nat.mul_add_div hp, Nat.div_eq_of_lt hj, Nat.add_zero, Nat.mul_add_mod, Nat.mod_eq_of_lt hj]
theorem pts_len {ls : List NLoop} (h : ∀ l ∈ ls, GL l) : (pts ls).length = cntL ls := by rw [pts_pt _ rfl h]; simp
theorem pts_mem {ls : List NLoop} (h : ∀ l ∈ ls, GL l) {p : List Int} (hp : p ∈ pts ls) : p.length = ls.length := by
  rw [pts_pt _ rfl h] at hp
  obtain ⟨k, _, rfl⟩ := List.mem_map.mp hp
  exact pt_len ..
theorem GVl.gw {ls : List NLoop} : ∀ {v : Val}, GVl ls v → GW v
  | .num _, _ => trivial
  | .lop _, _ => trivial
  | .at _ _, _ => trivial
  | .two _ _ _, h => ⟨h.1, h.2.1.gw, h.2.2.1.gw⟩
theorem GSum.gs {ls : List NLoop} {s : NSum} (h : GSum ls s) : GS ls s := ⟨by have := h.few; omega, fun f hf => by
  have := h.gf.fac f hf
  exact ⟨this.1, by omega, by omega⟩⟩
theorem GVl.ats {ls : List NLoop} : ∀ {v : Val}, GVl ls v → ∀ t ps, Val.at t ps ∈ ats v → ps.length ≤ 2 ∧ ∀ q ∈ ps, GSum ls q
  | .num _, _, _, _, h => by cases h
  | .lop _, _, _, _, h => by cases h
  | .at t ps, h, _, _, hm => by
    have := List.mem_singleton.mp hm
    cases this
    exact ⟨by rcases h.1 with ⟨_, h⟩ | ⟨_, h⟩ <;> omega, h.2⟩
  | .two _ a b, h, t, ps, hm => by
    rcases List.mem_append.mp hm with hm | hm
    · exact GVl.ats h.2.1 t ps hm
    · exact GVl.ats h.2.2.1 t ps hm
theorem Drawn.gn {N : Nest} (h : Drawn N) : GN N := by
  obtain ⟨m, m1, m3, e⟩ := h.nm
  refine ⟨fun l hl => (h.gl l hl).gl.1, ?_, ?_, h.b1, by have := h.b2; omega, fun s hs => ?_⟩
  · rw [e]
    have : m = 1 ∨ m = 2 ∨ m = 3 := by omega
    rcases this with rfl | rfl | rfl <;> decide
  · rw [← List.length_map (f := (·.x)), e, List.length_take]
    show min m 3 ≤ 4
    omega
  · have g := h.st s hs
    refine ⟨?_, fun q hq => (g.ps q hq).gs, g.v.gw, by have := g.d; omega, fun t ps hm => ?_, g.w⟩
    · rcases g.t with ⟨_, h⟩ | ⟨_, h⟩ <;> omega
    · obtain ⟨a, b⟩ := g.v.ats t ps hm
      exact ⟨by omega, fun q hq => (b q hq).gs⟩
section
variable {S : Sto} {ls : List NLoop} {p : List Int} {t : Str} {ps : List NSum} {k : Nat}
theorem law_cell_ok (hlow : Low S) (hk : S[k]? = some (.dk (toldK ls p))) (hl : p.length = ls.length) (h2 : ps.length ≤ 900) (hs : ∀ s ∈ ps, GS ls s) :
    m__law_cell [.str t, plcD ps, .ref k] S = .ok (cellD (cellAt ls p t ps)) S := by
  have hz : (1000000 : Nat) ≤ sizeLine := by decide
  have hkl := (List.getElem?_eq_some_iff.mp hk).1
  suffices h : Ok (m__law_cell [.str t, plcD ps, .ref k] S) (fun d S' => d = cellD (cellAt ls p t ps) ∧ S' = S) by
    obtain ⟨d, S', e, rfl, rfl⟩ := h.get
    exact e
  unfold m__law_cell b__law_cell
  refine ok_mdef (ws_seq (ws_asg (Ok.of (lst_ok (ds := []) rfl (by decide)) (Ok.of (a := [some (.str t), some (plcD ps), some (.ref k), some (.ref S.length), none, none, none, none]) rfl ?_))))
  refine ws_seq (ws_for (items := ps.map sumD) (gd := fun _ => True) (fun i E S' => ∃ nu fa, E = [some (.str t), some (plcD ps), some (.ref k), some (.ref S.length), nu, fa, none, none] ∧ S' = S ++ [.lst (((ps.take i).map (sumAt (envP ls p))).map .int)]) rfl ⟨none, none, rfl, rfl⟩ (fun _ _ _ _ => trivial) ?_ ?_)
  · rintro i dd E S' hi ⟨nu, fa, rfl, rfl⟩
    obtain ⟨s, hsm, rfl⟩ := map_get hi
    have gs := hs s (List.mem_of_getElem? hsm)
    have hi2 := (List.getElem?_eq_some_iff.mp hsm).1
    obtain ⟨S', hS'⟩ : ∃ S', S' = S ++ [O.lst (((ps.take i).map (sumAt (envP ls p))).map .int)] := ⟨_, rfl⟩
    rw [← hS']
    have hk' : S'[k]? = some (.dk (toldK ls p)) := by rw [hS', List.getElem?_append_left hkl]; exact hk
    have hr : S'[S.length]? = some (.lst (((ps.take i).map (sumAt (envP ls p))).map .int)) := by rw [hS']; exact get_end ..
    refine Ok.of (a := [some (.str t), some (plcD ps), some (.ref k), some (.ref S.length), some (.int s.n), some (.tup (s.fs.map facD)), none, none]) (S := S') rfl ?_
    have eI : mComp (iA (mV 5)) [6, 7] (gT 2 (gCons (gN 6) (gCons (gN 7) (gNil)))) (tYesM) (m2 opMul (m2 opIx (mV 2) (mV 6)) (mV 7)) [some (.str t), some (plcD ps), some (.ref k), some (.ref S.length), some (.int s.n), some (.tup (s.fs.map facD)), none, none] S' = .ok (s.fs.map fun f => .int (envP ls p f.1 * f.2)) S' := by
      refine mComp_all facD _ rfl trivial (fun f hf => ?_) (by have := gs.few; omega)
      obtain ⟨g1, g2, g3⟩ := gs.fac f hf
      refine body_yes (E1 := [some (.str t), some (plcD ps), some (.ref k), some (.ref S.length), some (.int s.n), some (.tup (s.fs.map facD)), some (.str f.1), some (.int f.2)]) rfl ?_
      exact m2_ok (m2_ok rfl rfl (ix_dk hk' rfl (told_get hl g1))) rfl (mul_ok ⟨by omega, by omega⟩)
    have eS : fSum (s.fs.map fun f => D.int (envP ls p f.1 * f.2)) S' = .ok (.int (s.fs.map fun f => envP ls p f.1 * f.2).sum) S' := by
      have := sum_ints (S := S') (ns := s.fs.map fun f => envP ls p f.1 * f.2)
      rw [List.map_map] at this
      exact this
    unfold w__law_cell_2
    refine ws_expr (Ok.of (meth2_ok rfl hr (cons_ok (m2_ok rfl (tl_ok eI eS) (r := .ok (.int (sumAt (envP ls p) s)) S') rfl) rfl) (app_lst hr (by rw [List.length_map, List.length_map, List.length_take]; omega))) ⟨_, _, rfl, ?_⟩)
    rw [hS', set_end, take_succ_get hsm]
    simp
  · rintro E S' ⟨nu, fa, rfl, rfl⟩
    rw [List.length_map, List.take_length]
    refine ws_ret (Ok.of (a := cellD (cellAt ls p t ps)) (tup_ok (cons_ok rfl (cons_ok (n1_ok rfl (tup_lst (get_end ..))) rfl)) (by simp)) ?_)
    exact Ok.of (gc_cut cell_low hlow) ⟨rfl, rfl⟩
/-- the cells that a value reads, by the law -/
theorem law_reads_ok (hl : p.length = ls.length) : ∀ {v : Val} {f : Nat} {S : Sto}, dpt v ≤ f → dpt v ≤ 6 → GVl ls v → Low S → S[k]? = some (.dk (toldK ls p)) → Ok (m__law_read_cells f [valD v, .ref k] S) (NewL S (((ats v).map (atC ls p)).map cellD))
  | v, 0, S, hf, _, _, _, _ => by cases v <;> simp [dpt] at hf
  | .num i, f + 1, S, _, _, _, _, _ => by
    unfold m__law_read_cells b__law_read_cells
    have e : opIn (.str "num") (.tup [.str "num", .str "loop"]) S = .ok (.bl true) S := by kernel_rfl
    refine ok_mdef (ws_seq (ws_yes (Ok.of (tB_ok (m2_ok rfl rfl e)) ⟨rfl, ws_ret ?_⟩)))
    refine Ok.of (lst_ok (ds := []) rfl (by decide)) ?_
    exact Ok.of (NewL.one (ds := []) rfl).gc (NewL.one rfl)
  | .lop x, f + 1, S, _, _, _, _, _ => by
    unfold m__law_read_cells b__law_read_cells
    have e : opIn (.str "loop") (.tup [.str "num", .str "loop"]) S = .ok (.bl true) S := by kernel_rfl
    refine ok_mdef (ws_seq (ws_yes (Ok.of (tB_ok (m2_ok rfl rfl e)) ⟨rfl, ws_ret ?_⟩)))
    refine Ok.of (lst_ok (ds := []) rfl (by decide)) ?_
    exact Ok.of (NewL.one (ds := []) rfl).gc (NewL.one rfl)
  | .at t ps, f + 1, S, _, _, hg, hlow, hk => by
    unfold m__law_read_cells b__law_read_cells
    have e : opIn (.str "at") (.tup [.str "num", .str "loop"]) S = .ok (.bl false) S := by kernel_rfl
    refine ok_mdef (ws_seq (ws_no (Ok.of (tB_ok (m2_ok rfl rfl e)) ⟨rfl, ws_nil (ws_seq (ws_yes (Ok.of (tB_ok (m2_ok rfl rfl eq_str)) ⟨by decide +kernel, ws_ret ?_⟩)))⟩)))
    have hc := law_cell_ok (t := t) (ps := ps) hlow hk hl (by rcases hg.1 with ⟨_, h⟩ | ⟨_, h⟩ <;> omega) (fun s hs => (hg.2 s hs).gs)
    refine Ok.of (lst_ok (ds := [cellD (cellAt ls p t ps)]) (cons_ok (call_ok rfl rfl hc) rfl) (by simp)) ?_
    have hlo : lowDs 0 [cellD (cellAt ls p t ps)] = true := lowDs_map (f := cellD) (xs := [cellAt ls p t ps]) fun _ _ => cell_low
    exact Ok.of (NewL.one hlo).gc (NewL.one hlo)
  | .two w a b, f + 1, S, hf, hd, hg, hlow, hk => by
    obtain ⟨hw, ha, hb, _⟩ := hg
    rw [dpt] at hf hd
    have hkl := (List.getElem?_eq_some_iff.mp hk).1
    unfold m__law_read_cells b__law_read_cells
    have e : opIn (.str w) (.tup [.str "num", .str "loop"]) S = .ok (.bl false) S := by rcases hw with rfl | rfl | rfl | rfl <;> kernel_rfl
    have e0 : decide (w = "at") = false := by rcases hw with rfl | rfl | rfl | rfl <;> decide +kernel
    refine ok_mdef (ws_seq (ws_no (Ok.of (tB_ok (m2_ok rfl rfl e)) ⟨rfl, ws_nil (ws_seq (ws_no (Ok.of (tB_ok (m2_ok rfl rfl eq_str)) ⟨e0, ws_nil (ws_ret ?_)⟩)))⟩)))
    have hla : (ats a).length ≤ 64 := Nat.le_trans (ats_len a) (Nat.pow_le_pow_right (by decide) (by omega : dpt a ≤ 6))
    have hlb : (ats b).length ≤ 64 := Nat.le_trans (ats_len b) (Nat.pow_le_pow_right (by decide) (by omega : dpt b ≤ 6))
    obtain ⟨d1, S1, q1, n1⟩ := (law_reads_ok hl (v := a) (f := f) (S := S) (by omega) (by omega) ha hlow hk).get
    obtain ⟨r1, rfl, g1, l1, T1, rfl, hc1⟩ := n1.get
    obtain ⟨d2, S2, q2, n2⟩ := (law_reads_ok hl (v := b) (f := f) (S := S ++ T1) (by omega) (by omega) hb (low_app hlow hc1) (by rw [List.getElem?_append_left hkl]; exact hk)).get
    obtain ⟨r2, rfl, g2, l2, T2, rfl, hc2⟩ := n2.get
    have g1' : (S ++ T1 ++ T2)[r1]? = some (.lst (((ats a).map (atC ls p)).map cellD)) := by rw [List.getElem?_append_left (List.getElem?_eq_some_iff.mp g1).1]; exact g1
    refine Ok.of (m2_ok (call_ok rfl rfl q1) (call_ok rfl rfl q2) (add_lst g1' g2 (by simp; omega))) ?_
    have hlo : lowDs 0 (((ats a).map (atC ls p)).map cellD ++ ((ats b).map (atC ls p)).map cellD) = true := lowDs_app (lowDs_map fun _ _ => cell_low) (lowDs_map fun _ _ => cell_low)
    have hN : NewL S (((ats (.two w a b)).map (atC ls p)).map cellD) (.ref (S ++ T1 ++ T2).length) (S ++ T1 ++ T2 ++ [.lst (((ats a).map (atC ls p)).map cellD ++ ((ats b).map (atC ls p)).map cellD)]) := by
      refine ⟨T1 ++ T2 ++ [.lst (((ats a).map (atC ls p)).map cellD ++ ((ats b).map (atC ls p)).map cellD)], (T1 ++ T2).length, by simp [Nat.add_assoc], by simp, ?_, cl_app (cl_app hc1 hc2) (cl_cons (o := .lst _) hlo rfl)⟩
      rw [get_end]
      simp [ats]
    exact Ok.of hN.gc hN
end
end K02
end M

namespace M
namespace K02
open PySem L2
/-! ### points_of -/
theorem lp_ind {g : Sto → Prop} {body : D → Sto → Rs Unit} (I : Nat → Sto → Prop) (hg : ∀ i S, I i S → g S) : ∀ (items : List D) (k : Nat) {S : Sto}, I k S → (∀ i d S, items[i]? = some d → I (k + i) S → Ok (body d S) (fun _ S' => I (k + i + 1) S')) → Ok (lpL g body items S) fun _ S' => I (k + items.length) S'
  | [], k, S, h, _ => by
    rw [lpL_nil, if_pos (hg _ _ h)]
    exact h
  | d :: r, k, S, h, hs => by
    obtain ⟨_, S1, e, h1⟩ := (hs 0 d S rfl h).get
    rw [lpL_cons, if_pos (hg _ _ h), e, noX_ok, bind_ok]
    have := lp_ind I hg r (k + 1) (S := S1) h1 fun i d S hi q => by
      have := hs (i + 1) d S (by simpa using hi) (by rw [show k + (i + 1) = k + 1 + i by omega]; exact q)
      rw [show k + (i + 1) + 1 = k + 1 + i + 1 by omega] at this
      exact this
    rw [show k + (d :: r).length = k + 1 + r.length by simp; omega]
    exact this
def rowD (p : List Int) : D := .tup (p.map .int)
theorem row_low {n : Nat} {p : List Int} : lowD n (rowD p) = true := lowDs_ints
section
variable {S : Sto} {N : Nest} {l : NLoop} {r : Nat} {rows : List (List Int)} {x : D}
theorem points_step (g : GL l) (hr : S[r]? = some (.lst (rows.map rowD))) (hb : (grow rows l).length ≤ 100000) (hp : ∀ p ∈ rows, p.length ≤ 1000) {a b : Option D} :
    WS (w_points_of_2 [some x, some (.ref r), some (lopD l), a, b] S) (fun E' S' => ∃ n T, E' = [some x, some (.ref n), some (lopD l), a, b] ∧ S' = S ++ T ∧ S'[n]? = some (.lst ((grow rows l).map rowD)) ∧ lowS 0 T = true) (fun _ _ => False) := by
  have hz : (1000000 : Nat) ≤ sizeLine := by decide
  have hrl := (List.getElem?_eq_some_iff.mp hr).1
  unfold w_points_of_2
  refine ws_asg ?_
  unfold mLc2
  have e1 : iA (mV 1) [some x, some (.ref r), some (lopD l), a, b] S = .ok ⟨rows.map rowD, fun S => S[r]? = some (.lst (rows.map rowD)), none⟩ S := by
    show aiOf (.ref r) S = _
    unfold aiOf
    simp only [hr]
  rw [e1, bind_ok]
  refine Ok.bind (Ok.mono (Q := fun _ S' => ∃ T, S' = S ++ (.lst (((rows.take (0 + (rows.map rowD).length)).flatMap fun p => (lvals l).map fun v => p ++ [v]).map rowD) :: T) ∧ lowS 0 T = true) ?_ ?_)
  · refine lp_ind (fun i S' => ∃ T, S' = S ++ (.lst (((rows.take i).flatMap fun p => (lvals l).map fun v => p ++ [v]).map rowD) :: T) ∧ lowS 0 T = true) ?_ (rows.map rowD) 0 ⟨[], rfl, rfl⟩ ?_
    · rintro i S' ⟨T, rfl, _⟩
      show (S ++ _)[r]? = _
      rw [List.getElem?_append_left hrl]; exact hr
    · rintro i d S' hi ⟨T, rfl, hT⟩
      rw [Nat.zero_add] at *
      obtain ⟨p, hpi, rfl⟩ := map_get hi
      have hpl := hp p (List.mem_of_getElem? hpi)
      obtain ⟨acc, hacc⟩ : ∃ acc, acc = (rows.take i).flatMap fun p => (lvals l).map fun v => p ++ [v] := ⟨_, rfl⟩
      have hlen : acc.length + (lvals l).length ≤ 100000 := by
        refine Nat.le_trans ?_ hb
        have : grow rows l = (acc ++ (lvals l).map fun v => p ++ [v]) ++ (rows.drop (i + 1)).flatMap fun p => (lvals l).map fun v => p ++ [v] := by
          unfold grow
          conv => lhs; rw [← List.take_append_drop (i + 1) rows]
          rw [List.flatMap_append, take_succ_get hpi, List.flatMap_append, hacc]
          simp
        rw [this]
        simp
      rw [← hacc]
      unfold bd2
      have eg : gN 3 (rowD p) (wipeE [3, 4] [some x, some (.ref r), some (lopD l), a, b]) (S ++ (.lst (acc.map rowD) :: T)) = .ok [some x, some (.ref r), some (lopD l), some (rowD p), none] (S ++ (.lst (acc.map rowD) :: T)) := rfl
      have et : tYesM [some x, some (.ref r), some (lopD l), some (rowD p), none] (S ++ (.lst (acc.map rowD) :: T)) = .ok true (S ++ (.lst (acc.map rowD) :: T)) := rfl
      obtain ⟨n2, hn2⟩ : ∃ n2, n2 = (S ++ (O.lst (acc.map rowD) :: T)).length := ⟨_, rfl⟩
      have em : iA (mN (mCl 1 m_values_of) (aCons (mV 2) (aNil))) [some x, some (.ref r), some (lopD l), some (rowD p), none] (S ++ (.lst (acc.map rowD) :: T)) = .ok ⟨(lvals l).map .int, fun S => S[n2]? = some (.lst ((lvals l).map .int)), none⟩ (S ++ (.lst (acc.map rowD) :: T) ++ [.lst ((lvals l).map .int)]) := by
        refine iA_ok (call_ok rfl rfl (values_of_ok g)) ?_
        unfold aiOf
        rw [← hn2]
        have : (S ++ (O.lst (acc.map rowD) :: T) ++ [.lst ((lvals l).map .int)])[n2]? = some (.lst ((lvals l).map .int)) := by rw [hn2]; exact get_end ..
        simp only [this]
      rw [eg, bind_ok, et, bind_ok, if_pos rfl, em, bind_ok]
      have hS : S.length < n2 := by rw [hn2]; simp
      refine Ok.mono (lp_ind (fun j S' => S' = S ++ (.lst ((acc ++ ((lvals l).take j).map fun v => p ++ [v]).map rowD) :: (T ++ [.lst ((lvals l).map .int)]))) ?_ ((lvals l).map .int) 0 (by simp) ?_) ?_
      · rintro j S' rfl
        show (S ++ (_ :: (T ++ [O.lst ((lvals l).map .int)])))[n2]? = _
        rw [List.getElem?_append_right (by omega), hn2]
        simp
      · rintro j d S' hj rfl
        rw [Nat.zero_add] at *
        obtain ⟨v, hv, rfl⟩ := map_get hj
        have hjl := (List.getElem?_eq_some_iff.mp hv).1
        unfold bd1
        obtain ⟨S2, hS2⟩ : ∃ S2, S2 = S ++ (O.lst ((acc ++ ((lvals l).take j).map fun v => p ++ [v]).map rowD) :: (T ++ [.lst ((lvals l).map .int)])) := ⟨_, rfl⟩
        rw [← hS2]
        have eg1 : gN 4 (.int v) (wipeE [4] [some x, some (.ref r), some (lopD l), some (rowD p), none]) S2 = .ok [some x, some (.ref r), some (lopD l), some (rowD p), some (.int v)] S2 := rfl
        have et1 : tYesM [some x, some (.ref r), some (lopD l), some (rowD p), some (.int v)] S2 = .ok true S2 := rfl
        have ea : m2 opAdd (mV 3) (mTup (aCons (mV 4) aNil)) [some x, some (.ref r), some (lopD l), some (rowD p), some (.int v)] S2 = .ok (rowD (p ++ [v])) S2 := by
          refine m2_ok rfl (tup_ok (cons_ok rfl rfl) (by simp)) ?_
          unfold rowD
          rw [add_tup, if_pos (by simp; omega), List.map_append]
          rfl
        rw [eg1, bind_ok, et1, bind_ok, if_pos rfl, ea, bind_ok]
        have gn : S2[S.length]? = some (.lst ((acc ++ ((lvals l).take j).map fun v => p ++ [v]).map rowD)) := by rw [hS2]; simp
        unfold apn
        simp only [gn]
        rw [if_pos (by simp; omega)]
        refine Ok.ret ?_
        rw [hS2, take_succ_get hv]
        simp
      · rintro _ S' rfl
        refine ⟨T ++ [.lst ((lvals l).map .int)], ?_, cl_app hT (cl_cons (o := .lst _) lowDs_ints rfl)⟩
        rw [take_succ_get hpi, List.flatMap_append, ← hacc]
        simp
  · rintro _ S' ⟨T, rfl, hT⟩
    rw [Nat.zero_add, List.length_map, List.take_length]
    show Ok (Rs.ok (D.ref S.length) _) _
    refine Ok.ret (Ok.of (a := [some x, some (.ref S.length), some (lopD l), a, b]) rfl ?_)
    exact ⟨S.length, _, rfl, rfl, by simp [grow], cl_cons (o := .lst _) (lowDs_map fun _ _ => row_low) hT⟩
theorem points_of_ok (hlow : Low S) (hg : ∀ l ∈ N.loops, GL l) (hc : ∀ i, cntL (N.loops.take i) ≤ 100000) (hl : N.loops.length ≤ 1000) : m_points_of [nestD N] S = .ok (.tup ((pts N.loops).map rowD)) S := by
  suffices h : Ok (m_points_of [nestD N] S) (fun d S' => d = .tup ((pts N.loops).map rowD) ∧ S' = S) by
    obtain ⟨d, S', e, rfl, rfl⟩ := h.get
    exact e
  unfold m_points_of b_points_of
  refine ok_mdef (ws_seq (ws_asg (Ok.of (lst_ok (ds := [.tup []]) rfl (by simp)) (Ok.of (a := [some (nestD N), some (.ref S.length), none, none, none]) rfl ?_))))
  refine ws_seq (ws_for (items := N.loops.map lopD) (gd := fun _ => True) (fun i E S' => ∃ n lo T, E = [some (nestD N), some (.ref n), lo, none, none] ∧ S' = S ++ T ∧ S'[n]? = some (.lst ((pts (N.loops.take i)).map rowD)) ∧ lowS 0 T = true) rfl ⟨S.length, none, _, rfl, rfl, get_end .., cl_cons (o := .lst _) rfl rfl⟩ (fun _ _ _ _ => trivial) ?_ ?_)
  · rintro i dd E S' hi ⟨n, lo, T, rfl, rfl, q1, q2⟩
    obtain ⟨l, hli, rfl⟩ := map_get hi
    have e : pts (N.loops.take (i + 1)) = grow (pts (N.loops.take i)) l := by rw [take_succ_get hli, pts_snoc]
    have hgi : ∀ j, ∀ l ∈ N.loops.take j, GL l := fun j l h => hg l (List.mem_of_mem_take h)
    refine Ok.of (a := [some (nestD N), some (.ref n), some (lopD l), none, none]) (S := S ++ T) rfl ?_
    refine (points_step (hg l (List.mem_of_getElem? hli)) q1 (by rw [← e, pts_len (hgi _)]; exact hc _) (fun p hp => by rw [pts_mem (hgi i) hp, List.length_take]; omega)).mono ?_ (fun _ _ z => z.elim)
    rintro E2 S2 ⟨n2, T2, rfl, rfl, p1, p2⟩
    exact ⟨n2, _, T ++ T2, rfl, by simp, by rw [e]; exact p1, cl_app q2 p2⟩
  · rintro E S' ⟨n, lo, T, rfl, rfl, q1, q2⟩
    rw [List.length_map, List.take_length] at q1
    refine ws_ret (Ok.of (n1_ok rfl (tup_lst q1)) ?_)
    exact Ok.of (gc_cut (lowDs_map fun _ _ => row_low) hlow) ⟨rfl, rfl⟩
end
end K02
end M

namespace M
namespace K02
open PySem L2
/-! ### the law's points -/
theorem merge_new : ∀ {kvs acc : List (Key × D)}, (acc.map (·.1) ++ kvs.map (·.1)).Nodup → mergeD acc kvs = acc ++ kvs
  | [], acc, _ => by rw [List.append_nil]; rfl
  | kv :: r, acc, h => by
    have hno : ¬ (acc.any fun x => decide (x.1 = kv.1)) = true := fun z => by
      obtain ⟨x, hk, e⟩ := List.any_eq_true.mp z
      have e : x.1 = kv.1 := of_decide_eq_true e
      rw [List.map_cons] at h
      exact (List.nodup_append.mp h).2.2 _ (List.mem_map.mpr ⟨x, hk, rfl⟩) _ (List.mem_cons_self ..) e
    have es : setK acc kv.1 kv.2 = acc ++ [kv] := by unfold setK; rw [if_neg hno]
    show mergeD (setK acc kv.1 kv.2) r = _
    rw [es, merge_new (by simpa using h)]
    simp
theorem told_keys {ls : List NLoop} {p : List Int} (hl : p.length = ls.length) : (toldK ls p).map (·.1) = (ls.map (·.x)).map Sum.inr := by
  unfold toldK
  rw [List.map_map, ← List.map_fst_zip (l₁ := ls) (l₂ := p) (by omega), List.map_map, List.map_map, List.map_fst_zip (by omega)]
  rfl
theorem told_snoc {ls : List NLoop} {p : List Int} {l : NLoop} {v : Int} (hl : p.length = ls.length) : toldK (ls ++ [l]) (p ++ [v]) = toldK ls p ++ [(.inr l.x, .int v)] := by
  unfold toldK
  rw [List.zip_append (by omega), List.map_append]
  rfl
theorem pairs_told : ∀ (zs : List (NLoop × Int)), pairsK (zs.map fun z => .tup [.str z.1.x, .int z.2]) = some (zs.map fun z => (.inr z.1.x, .int z.2))
  | [] => rfl
  | z :: r => by
    rw [List.map_cons, List.map_cons, pairsK, pairs_told r]
    rfl
theorem items_told {ls : List NLoop} {p : List Int} : itemsD (toldK ls p) = (ls.zip p).map fun z => .tup [.str z.1.x, .int z.2] := by
  unfold itemsD toldK
  rw [List.map_map]
  rfl
theorem m1_go {f : D → Sto → Rs D} {a : En → Sto → Rs D} {E : En} {S S1 : Sto} {x : D} {r : Rs D} (h : a E S = .ok x S1) (h2 : f x S1 = r) : m1 f a E S = r := by
  unfold m1; rw [h, bind_ok, h2]
theorem low_get {S : Sto} {n : Nat} {o : O} (h : Low S) (hn : S[n]? = some o) : lowO S.length o = true := List.all_eq_true.mp h o (List.mem_of_getElem? hn)
def TD (S : Sto) (ls : List NLoop) (ks : List Nat) (ps : List (List Int)) : Prop := ks.length = ps.length ∧ ∀ (i k : Nat) (p : List Int), ks[i]? = some k → ps[i]? = some p → S[k]? = some (O.dk (toldK ls p))
theorem TD.mono {S S' : Sto} {ls : List NLoop} {ks : List Nat} {ps : List (List Int)} (h : TD S ls ks ps) (f : ∀ (k : Nat) (kvs : List (Key × D)), S[k]? = some (O.dk kvs) → S'[k]? = some (O.dk kvs)) : TD S' ls ks ps := ⟨h.1, fun i k p h1 h2 => f _ _ (h.2 i k p h1 h2)⟩
theorem TD.snoc {S : Sto} {ls : List NLoop} {ks : List Nat} {ps : List (List Int)} {k : Nat} {p : List Int} (h : TD S ls ks ps) (hk : S[k]? = some (.dk (toldK ls p))) : TD S ls (ks ++ [k]) (ps ++ [p]) := by
  refine ⟨by simp [h.1], fun i k' p' h1 h2 => ?_⟩
  by_cases hi : i < ks.length
  · rw [List.getElem?_append_left hi] at h1
    rw [List.getElem?_append_left (by have := h.1; omega)] at h2
    exact h.2 i k' p' h1 h2
  · have hi2 : i < (ks ++ [k]).length := (List.getElem?_eq_some_iff.mp h1).1
    rw [List.length_append, List.length_singleton] at hi2
    have e : i = ks.length := by omega
    have e2 : i = ps.length := by have := h.1; omega
    rw [e] at h1
    rw [e2] at h2
    rw [List.getElem?_append_right (Nat.le_refl _), Nat.sub_self] at h1 h2
    cases h1
    cases h2
    exact hk
section
variable {S : Sto} {ls : List NLoop} {l : NLoop} {x : D} {fo : Option D} {n k : Nat} {p : List Int}
theorem lpts5 {acc : List D} {v : Int} (hlow : Low S) (hn : S[n]? = some (.lst acc)) (ha : acc.length ≤ 1000) (hk : S[k]? = some (.dk (toldK ls p))) (hl : p.length = ls.length) (h1 : ls.length ≤ 1000) (hd : ((ls ++ [l]).map (·.x)).Nodup) :
    WS (w__law_points_5 [some x, fo, some (lopD l), some (.ref n), some (.ref k), some (.int v)] S) (fun E' S' => E' = [some x, fo, some (lopD l), some (.ref n), some (.ref k), some (.int v)] ∧ S'[n]? = some (.lst (acc ++ [.ref (S.length + 3)])) ∧ S'[S.length + 3]? = some (.dk (toldK (ls ++ [l]) (p ++ [v]))) ∧ Low S' ∧ S'.length = S.length + 4 ∧ ∀ i, i < S.length → i ≠ n → S'[i]? = S[i]?) (fun _ _ => False) := by
  have hnl := (List.getElem?_eq_some_iff.mp hn).1
  obtain ⟨it, hit⟩ : ∃ it, it = itemsD (toldK ls p) := ⟨_, rfl⟩
  obtain ⟨S1, h1'⟩ : ∃ S1, S1 = S ++ [O.lst it] := ⟨_, rfl⟩
  obtain ⟨S2, h2'⟩ : ∃ S2, S2 = S1 ++ [O.lst [.tup [.str l.x, .int v]]] := ⟨_, rfl⟩
  obtain ⟨S3, h3'⟩ : ∃ S3, S3 = S2 ++ [O.lst (it ++ [.tup [.str l.x, .int v]])] := ⟨_, rfl⟩
  obtain ⟨S4, h4'⟩ : ∃ S4, S4 = S3 ++ [O.dk (toldK (ls ++ [l]) (p ++ [v]))] := ⟨_, rfl⟩
  have n1 : S1.length = S.length + 1 := by rw [h1']; simp
  have n2 : S2.length = S.length + 2 := by rw [h2']; simp [n1]
  have n3 : S3.length = S.length + 3 := by rw [h3']; simp [n2]
  have n4 : S4.length = S.length + 4 := by rw [h4']; simp [n3]
  have itl : it.length ≤ 1000 := by rw [hit, items_told]; simp; omega
  have eI : fListItems (.ref k) S = .ok (.ref S.length) S1 := by
    unfold fListItems
    simp only [hk]
    rw [h1', hit]
  have gi : S2[S.length]? = some (.lst it) := by rw [h2', List.getElem?_append_left (by omega), h1']; exact get_end ..
  have gp : S2[S1.length]? = some (.lst [.tup [.str l.x, .int v]]) := by rw [h2']; exact get_end ..
  have eA : opAdd (.ref S.length) (.ref S1.length) S2 = .ok (.ref S2.length) S3 := by rw [add_lst gi gp (by simp; omega), h3']
  have ek : ((toldK (ls ++ [l]) (p ++ [v])).map (·.1)).Nodup := by
    rw [told_keys (by simp [hl])]
    exact List.Pairwise.map _ (fun a b h z => h (Sum.inr.inj z)) hd
  have eD : fDict [.ref S2.length] S3 = .ok (.ref S3.length) S4 := by
    have g3 : S3[S2.length]? = some (.lst (it ++ [.tup [.str l.x, .int v]])) := by rw [h3']; exact get_end ..
    have ep : pairsK (it ++ [.tup [.str l.x, .int v]]) = some (toldK (ls ++ [l]) (p ++ [v])) := by
      have := pairs_told ((ls ++ [l]).zip (p ++ [v]))
      rw [← items_told (ls := ls ++ [l])] at this
      have e2 : itemsD (toldK (ls ++ [l]) (p ++ [v])) = it ++ [.tup [.str l.x, .int v]] := by rw [told_snoc hl, hit]; unfold itemsD; rw [List.map_append]; rfl
      rw [e2] at this
      exact this
    unfold fDict
    simp only [g3, ep]
    rw [merge_new (by simpa using ek), h4']
    rfl
  have old : ∀ i, i < S.length → S4[i]? = S[i]? := fun i hi => by
    rw [h4', List.getElem?_append_left (by omega), h3', List.getElem?_append_left (by omega), h2', List.getElem?_append_left (by omega), h1', List.getElem?_append_left hi]
  have hn4 : S4[n]? = some (.lst acc) := by rw [old n hnl]; exact hn
  unfold w__law_points_5
  refine ws_expr (Ok.of (meth2_ok rfl hn (cons_ok (n1_ok (m2_ok (m1_go rfl eI) (by rw [lst_ok (ds := [.tup [.str l.x, .int v]]) (S1 := S1) rfl (by simp), ← h2']) eA) eD) rfl) (app_lst hn4 (by omega))) ?_)
  have low4 : Low S4 := by
    rw [h4', h3', h2', h1']
    refine (((hlow.snoc ?_).snoc rfl).snoc ?_).snoc ?_
    · show lowDs _ it = true
      rw [hit, items_told]
      exact lowDs_map fun _ _ => rfl
    · show lowDs _ (it ++ _) = true
      rw [hit, items_told]
      exact lowDs_app (lowDs_map fun _ _ => rfl) rfl
    · show lowDs _ ((toldK _ _).map (·.2)) = true
      unfold toldK
      rw [List.map_map]
      exact lowDs_map fun _ _ => rfl
  refine ⟨rfl, by rw [List.getElem?_set_self (by omega), n3], ?_, low4.set ?_, by rw [List.length_set, n4], fun i i1 i2 => by rw [List.getElem?_set_ne (Ne.symm i2), old i i1]⟩
  · rw [List.getElem?_set_ne (by omega), h4', ← n3]; exact get_end ..
  · have : lowDs S4.length acc = true := low_get low4 hn4
    refine lowDs_app this ?_
    simp [lowDs, lowD, n3, n4]
theorem dk_keep {S S' : Sto} {acc : List D} {n : Nat} (hn : S[n]? = some (.lst acc)) (f : ∀ i, i < S.length → i ≠ n → S'[i]? = S[i]?) : ∀ (k : Nat) (kvs : List (Key × D)), S[k]? = some (O.dk kvs) → S'[k]? = some (O.dk kvs) := fun k kvs h => by
  rw [f k (List.getElem?_eq_some_iff.mp h).1 (fun e => by rw [e, hn] at h; cases h)]; exact h
theorem lpts4 {ks2 : List Nat} {ps2 : List (List Int)} {va : Option D} (g : GL l) (hvl : (lvals l).length < 100) (hlow : Low S) (hn : S[n]? = some (.lst (ks2.map .ref))) (ht : TD S (ls ++ [l]) ks2 ps2) (ha : ps2.length + (lvals l).length ≤ 900) (hk : S[k]? = some (.dk (toldK ls p))) (hl : p.length = ls.length) (h1 : ls.length ≤ 1000) (hd : ((ls ++ [l]).map (·.x)).Nodup) :
    WS (w__law_points_4 [some x, fo, some (lopD l), some (.ref n), some (.ref k), va] S) (fun E' S' => ∃ va' ks3, E' = [some x, fo, some (lopD l), some (.ref n), some (.ref k), va'] ∧ S'[n]? = some (.lst (ks3.map .ref)) ∧ TD S' (ls ++ [l]) ks3 (ps2 ++ (lvals l).map fun v => p ++ [v]) ∧ Low S' ∧ S.length ≤ S'.length ∧ ∀ i, i < S.length → i ≠ n → S'[i]? = S[i]?) (fun _ _ => False) := by
  have hnl := (List.getElem?_eq_some_iff.mp hn).1
  unfold w__law_points_4
  have gv : (S ++ [O.lst ((lvals l).map .int)])[S.length]? = some (.lst ((lvals l).map .int)) := get_end ..
  refine ws_for (items := (lvals l).map .int) (gd := fun S' => S'[S.length]? = some (.lst ((lvals l).map .int))) (S1 := S ++ [O.lst ((lvals l).map .int)]) (fun j E' S' => ∃ va' ks3, E' = [some x, fo, some (lopD l), some (.ref n), some (.ref k), va'] ∧ S'[n]? = some (.lst (ks3.map .ref)) ∧ TD S' (ls ++ [l]) ks3 (ps2 ++ ((lvals l).take j).map fun v => p ++ [v]) ∧ Low S' ∧ S.length + 1 ≤ S'.length ∧ S'[S.length]? = some (.lst ((lvals l).map .int)) ∧ ∀ i, i < S.length → i ≠ n → S'[i]? = S[i]?)
    (iA_ok (call_ok rfl rfl (loop_values_ok g hvl)) (by unfold aiOf; simp only [gv])) ⟨va, ks2, rfl, by rw [List.getElem?_append_left hnl]; exact hn, ?_, hlow.snoc lowDs_ints, by simp, gv, fun i i1 i2 => by rw [List.getElem?_append_left i1]⟩ ?_ ?_ ?_
  · rw [List.take_zero, List.map_nil, List.append_nil]
    exact ht.mono fun k kvs h => get_old h
  · rintro i E S' ⟨_, _, _, _, _, _, _, h, _⟩
    exact h
  · rintro j d E S' hj ⟨va', ks3, rfl, q1, q2, q3, q4, q5, q6⟩
    obtain ⟨v, hv, rfl⟩ := map_get hj
    have hjl := (List.getElem?_eq_some_iff.mp hv).1
    have hkl := (List.getElem?_eq_some_iff.mp hk).1
    have hk' : S'[k]? = some (.dk (toldK ls p)) := by rw [q6 k hkl (fun e => by rw [e, hn] at hk; cases hk)]; exact hk
    have hkl3 : ks3.length ≤ 1000 := by have := q2.1; simp at this; omega
    refine Ok.of (a := [some x, fo, some (lopD l), some (.ref n), some (.ref k), some (.int v)]) (S := S') rfl ?_
    refine (lpts5 (v := v) q3 q1 (by simp; omega) hk' hl h1 hd).mono ?_ (fun _ _ z => z.elim)
    rintro E2 S2 ⟨rfl, p1, p2, p3, p4, p5⟩
    refine ⟨_, ks3 ++ [S'.length + 3], rfl, by rw [p1]; simp, ?_, p3, by omega, by rw [p5 _ (by omega) (by omega)]; exact q5, fun i i1 i2 => by rw [p5 i (by omega) i2]; exact q6 i i1 i2⟩
    rw [take_succ_get hv, List.map_append, ← List.append_assoc]
    exact TD.snoc (q2.mono (dk_keep q1 p5)) p2
  · rintro E S' ⟨va', ks3, rfl, q1, q2, q3, q4, q5, q6⟩
    rw [List.length_map, List.take_length] at q2
    exact ⟨va', ks3, rfl, q1, q2, q3, by omega, q6⟩
end
end K02
end M

namespace M
namespace K02
open PySem L2
/-! ### the law's points, all -/
section
variable {S : Sto} {ls : List NLoop} {l : NLoop} {x : D} {n k : Nat} {p : List Int}
theorem grow_app {a b : List (List Int)} {l : NLoop} : grow (a ++ b) l = grow a l ++ grow b l := List.flatMap_append
theorem grow_one {p : List Int} {l : NLoop} : grow [p] l = (lvals l).map fun v => p ++ [v] := by simp [grow]
/-- a new list of told points in the store -/
def PtL (S : Sto) (ls : List NLoop) (ps : List (List Int)) (n : Nat) (S' : Sto) : Prop := ∃ ks : List Nat, S'[n]? = some (.lst (ks.map .ref)) ∧ TD S' ls ks ps ∧ Low S' ∧ S.length ≤ n ∧ ∀ i, i < S.length → S'[i]? = S[i]?
theorem PtL.len {S S' : Sto} {ls : List NLoop} {ps : List (List Int)} {n : Nat} (h : PtL S ls ps n S') : S.length ≤ S'.length := by
  obtain ⟨ks, h1, _, _, h2, _⟩ := h
  have := (List.getElem?_eq_some_iff.mp h1).1
  omega
theorem lpts2 {S0 : Sto} {f : Nat} {ps : List (List Int)} {ne to va : Option D} (g : GL l) (hvl : (lvals l).length < 100) (h : PtL S0 ls ps f S) (hb : (grow ps l).length ≤ 900) (hp : ∀ p ∈ ps, p.length = ls.length) (h1 : ls.length ≤ 1000) (hd : ((ls ++ [l]).map (·.x)).Nodup) :
    WS (w__law_points_2 [some x, some (.ref f), some (lopD l), ne, to, va] S) (fun E' S' => ∃ n ne' to' va', E' = [some x, some (.ref n), some (lopD l), ne', to', va'] ∧ PtL S0 (ls ++ [l]) (grow ps l) n S') (fun _ _ => False) := by
  have hlen := h.len
  obtain ⟨ks, hf, ht, hlow, hfl, old⟩ := h
  have hfl2 := (List.getElem?_eq_some_iff.mp hf).1
  unfold w__law_points_2
  refine ws_seq (ws_asg (Ok.of (lst_ok (ds := []) rfl (by decide)) (Ok.of (a := [some x, some (.ref f), some (lopD l), some (.ref S.length), to, va]) rfl ?_)))
  have g1 : (S ++ [O.lst []])[f]? = some (.lst (ks.map .ref)) := get_old hf
  refine ws_seq (ws_for (items := ks.map .ref) (gd := fun S' => S'[f]? = some (.lst (ks.map .ref))) (S1 := S ++ [O.lst []]) (fun i E' S' => ∃ to' va' ks3, E' = [some x, some (.ref f), some (lopD l), some (.ref S.length), to', va'] ∧ S'[S.length]? = some (.lst (ks3.map .ref)) ∧ TD S' (ls ++ [l]) ks3 (grow (ps.take i) l) ∧ Low S' ∧ S.length + 1 ≤ S'.length ∧ ∀ i, i < S.length → S'[i]? = S[i]?)
    (iA_ok rfl (by unfold aiOf; simp only [g1])) ⟨to, va, [], rfl, get_end .., ⟨rfl, fun i k p h => by simp at h⟩, hlow.snoc rfl, by simp, fun i hi => by rw [List.getElem?_append_left hi]⟩ ?_ ?_ ?_)
  · rintro i E S' ⟨_, _, _, _, _, _, _, _, h⟩
    show S'[f]? = _
    rw [h f hfl2]; exact hf
  · rintro i d E S' hi ⟨to', va', ks3, rfl, q1, q2, q3, q4, q5⟩
    obtain ⟨k, hki, rfl⟩ := map_get hi
    have hil := (List.getElem?_eq_some_iff.mp hki).1
    obtain ⟨p, hpi⟩ : ∃ p, ps[i]? = some p := ⟨ps[i]'(by rw [← ht.1]; exact hil), List.getElem?_eq_getElem _⟩
    have hk := ht.2 i k p hki hpi
    have hk' : S'[k]? = some (.dk (toldK ls p)) := by rw [q5 k (List.getElem?_eq_some_iff.mp hk).1]; exact hk
    refine Ok.of (a := [some x, some (.ref f), some (lopD l), some (.ref S.length), some (.ref k), va']) (S := S') rfl ?_
    have hsz : (grow (ps.take i) l).length + (lvals l).length ≤ 900 := by
      refine Nat.le_trans ?_ hb
      have : grow ps l = grow (ps.take i) l ++ (lvals l).map (fun v => p ++ [v]) ++ grow (ps.drop (i + 1)) l := by
        rw [← grow_one, ← grow_app, ← take_succ_get hpi, ← grow_app, List.take_append_drop]
      rw [this]
      simp
    refine (lpts4 (va := va') g hvl q3 q1 q2 hsz hk' (hp p (List.mem_of_getElem? hpi)) h1 hd).mono ?_ (fun _ _ z => z.elim)
    rintro E2 S2 ⟨va2, ks4, rfl, p1, p2, p3, p4, p5⟩
    refine ⟨_, _, ks4, rfl, p1, ?_, p3, by omega, fun i i1 => by rw [p5 i (by omega) (by omega)]; exact q5 i i1⟩
    rw [take_succ_get hpi, grow_app, grow_one]
    exact p2
  · rintro E S' ⟨to', va', ks3, rfl, q1, q2, q3, q4, q5⟩
    rw [List.length_map, ht.1, List.take_length] at q2
    refine ws_asg (Ok.of (a := .ref S.length) (S := S') rfl (Ok.of (a := [some x, some (.ref S.length), some (lopD l), some (.ref S.length), to', va']) (S := S') rfl ?_))
    exact ⟨_, _, _, _, rfl, ks3, q1, q2, q3, by omega, fun i hi => by rw [q5 i (by omega)]; exact old i hi⟩
theorem law_points_ok {N : Nest} (hlow : Low S) (g : ∀ l ∈ N.loops, GL l ∧ (lvals l).length < 100) (hc : ∀ i, cntL (N.loops.take i) ≤ 900) (hl : N.loops.length ≤ 1000) (hd : (N.loops.map (·.x)).Nodup) : ∃ n S', m__law_points [nestD N] S = .ok (.ref n) S' ∧ PtL S N.loops (pts N.loops) n S' := by
  suffices h : Ok (m__law_points [nestD N] S) (fun d S' => ∃ n, d = .ref n ∧ PtL S N.loops (pts N.loops) n S') by
    obtain ⟨d, S', e, n, rfl, q⟩ := h.get
    exact ⟨n, S', e, q⟩
  unfold m__law_points b__law_points
  have hgi : ∀ j, ∀ l ∈ N.loops.take j, GL l := fun j l h => (g l (List.mem_of_mem_take h)).1
  have hl1 : (S ++ [O.dk []]).length = S.length + 1 := by simp
  refine ok_mdef (ws_seq (ws_asg (Ok.of (lst_ok (ds := [.ref S.length]) (S1 := S ++ [.dk []]) rfl (by simp)) (Ok.of (a := [some (nestD N), some (.ref (S.length + 1)), none, none, none, none]) (by rw [hl1]; rfl) ?_))))
  refine ws_seq (ws_for (items := N.loops.map lopD) (gd := fun _ => True) (fun i E S' => ∃ n lo ne to va, E = [some (nestD N), some (.ref n), lo, ne, to, va] ∧ PtL S (N.loops.take i) (pts (N.loops.take i)) n S') rfl ⟨S.length + 1, none, none, none, none, rfl, [S.length], by rw [← hl1]; exact get_end .., ⟨rfl, fun i k p h1 h2 => ?_⟩, (hlow.snoc rfl).snoc ?_, by omega, fun i hi => by rw [List.getElem?_append_left (by simp; omega), List.getElem?_append_left hi]⟩ (fun _ _ _ _ => trivial) ?_ ?_)
  · have : i = 0 := by have := (List.getElem?_eq_some_iff.mp h1).1; simp at this; exact this
    subst this
    cases h1
    cases h2
    rw [List.getElem?_append_left (by simp)]
    exact get_end ..
  · simp [lowO, lowDs, lowD]
    omega
  · rintro i dd E S' hi ⟨n, lo, ne, to, va, rfl, q⟩
    obtain ⟨l, hli, rfl⟩ := map_get hi
    have gl := g l (List.mem_of_getElem? hli)
    have e : pts (N.loops.take (i + 1)) = grow (pts (N.loops.take i)) l := by rw [take_succ_get hli, pts_snoc]
    refine Ok.of (a := [some (nestD N), some (.ref n), some (lopD l), ne, to, va]) (S := S') rfl ?_
    refine (lpts2 gl.1 gl.2 q (by rw [← e, pts_len (hgi _)]; exact hc _) (fun p hp => pts_mem (hgi i) hp) (by rw [List.length_take]; omega) (by rw [← take_succ_get hli]; exact List.Pairwise.sublist (List.Sublist.map _ (List.take_sublist ..)) hd)).mono ?_ (fun _ _ z => z.elim)
    rintro E2 S2 ⟨n2, ne2, to2, va2, rfl, p2⟩
    exact ⟨n2, _, _, _, _, rfl, by rw [e, take_succ_get hli]; exact p2⟩
  · rintro E S' ⟨n, lo, ne, to, va, rfl, q⟩
    rw [List.length_map, List.take_length] at q
    refine ws_ret (Ok.of (a := .ref n) (S := S') rfl ?_)
    have hn : S.length ≤ n := by obtain ⟨_, _, _, _, h, _⟩ := q; exact h
    have : lowD S.length (.ref n) = false := by simp [lowD]; omega
    unfold gc
    rw [this]
    exact Ok.ret ⟨n, rfl, q⟩
end
end K02
end M

namespace M
namespace K02
open PySem L2
/-! ### what the law holds to be touched -/
def wrC (ls : List NLoop) (p : List Int) (s : Stm) : Cell := cellAt ls p s.t s.ps
def rdC (ls : List NLoop) (p : List Int) (s : Stm) : List Cell := (ats s.v).map (atC ls p) ++ if s.w = "add" then [wrC ls p s] else []
def qsN (N : Nest) : List (List Int × Stm) := (pts N.loops).flatMap fun p => N.body.map fun s => (p, s)
def TR (S : Sto) (n : Nat) (ls : List NLoop) (ds : List D) (qs : List (List Int × Stm)) : Prop := ds.length = qs.length ∧ ∀ (i : Nat) (p : List Int) (s : Stm), qs[i]? = some (p, s) → ∃ r, n < r ∧ ds[i]? = some (.tup [.ref r, cellD (wrC ls p s)]) ∧ S[r]? = some (O.lst ((rdC ls p s).map cellD))
theorem TR.mono {S S' : Sto} {n : Nat} {ls : List NLoop} {ds : List D} {qs : List (List Int × Stm)} (h : TR S n ls ds qs) (f : ∀ i, i < S.length → i ≠ n → S'[i]? = S[i]?) : TR S' n ls ds qs := ⟨h.1, fun i p s hi => by
  obtain ⟨r, h1, h2, h3⟩ := h.2 i p s hi
  exact ⟨r, h1, h2, by rw [f r (List.getElem?_eq_some_iff.mp h3).1 (by omega)]; exact h3⟩⟩
theorem TR.snoc {S : Sto} {n r : Nat} {ls : List NLoop} {ds : List D} {qs : List (List Int × Stm)} {p : List Int} {s : Stm} (h : TR S n ls ds qs) (hr : n < r) (hs : S[r]? = some (.lst ((rdC ls p s).map cellD))) : TR S n ls (ds ++ [.tup [.ref r, cellD (wrC ls p s)]]) (qs ++ [(p, s)]) := by
  refine ⟨by simp [h.1], fun i p' s' h2 => ?_⟩
  by_cases hi : i < qs.length
  · rw [List.getElem?_append_left hi] at h2
    obtain ⟨r', a, b, c⟩ := h.2 i p' s' h2
    exact ⟨r', a, by rw [List.getElem?_append_left (by have := h.1; omega)]; exact b, c⟩
  · have hi2 : i < (qs ++ [(p, s)]).length := (List.getElem?_eq_some_iff.mp h2).1
    rw [List.length_append, List.length_singleton] at hi2
    have e : i = qs.length := by omega
    subst e
    rw [List.getElem?_append_right (Nat.le_refl _), Nat.sub_self] at h2
    cases h2
    refine ⟨r, hr, ?_, hs⟩
    rw [← h.1, List.getElem?_append_right (Nat.le_refl _), Nat.sub_self]
    rfl
section
variable {S : Sto} {ls : List NLoop} {x : D} {n k : Nat} {p : List Int}
theorem ltch3 {ds : List D} {s : Stm} {ce re : Option D} (hlow : Low S) (hn : S[n]? = some (.lst ds)) (ha : ds.length ≤ 1000) (hk : S[k]? = some (.dk (toldK ls p))) (hl : p.length = ls.length) (gs : GStm ls s) :
    WS (w__law_touched_3 [some x, some (.ref n), some (.ref k), some (.str s.w), some (.str s.t), some (plcD s.ps), some (valD s.v), ce, re] S) (fun E' S' => ∃ r, E' = [some x, some (.ref n), some (.ref k), some (.str s.w), some (.str s.t), some (plcD s.ps), some (valD s.v), some (cellD (wrC ls p s)), some (.ref r)] ∧ S.length ≤ r ∧ S'[n]? = some (.lst (ds ++ [.tup [.ref r, cellD (wrC ls p s)]])) ∧ S'[r]? = some (.lst ((rdC ls p s).map cellD)) ∧ Low S' ∧ S.length ≤ S'.length ∧ ∀ i, i < S.length → i ≠ n → S'[i]? = S[i]?) (fun _ _ => False) := by
  have hnl := (List.getElem?_eq_some_iff.mp hn).1
  unfold w__law_touched_3
  have hc := law_cell_ok (t := s.t) (ps := s.ps) hlow hk hl (by rcases gs.t with ⟨_, h⟩ | ⟨_, h⟩ <;> omega) (fun q hq => (gs.ps q hq).gs)
  refine ws_seq (ws_asg (Ok.of (call_ok rfl rfl hc) (Ok.of (a := [some x, some (.ref n), some (.ref k), some (.str s.w), some (.str s.t), some (plcD s.ps), some (valD s.v), some (cellD (wrC ls p s)), re]) (S := S) rfl ?_)))
  obtain ⟨d1, S1, q1, n1⟩ := (law_reads_ok hl (v := s.v) (f := 8) (S := S) (by have := gs.d; omega) (by have := gs.d; omega) gs.v hlow hk).get
  obtain ⟨r1, rfl, g1, l1, T1, rfl, hc1⟩ := n1.get
  have hla : (ats s.v).length ≤ 8 := Nat.le_trans (ats_len s.v) (Nat.pow_le_pow_right (by decide) gs.d)
  obtain ⟨ex, hex⟩ : ∃ ex : List Cell, ex = if s.w = "add" then [wrC ls p s] else [] := ⟨_, rfl⟩
  have hexl : ex.length ≤ 1 := by rw [hex]; split <;> simp
  have eIf : mIfE (tB (m2 opEq (mV 3) (mC (.str "add")))) (mLst (aCons (mV 7) (aNil))) (mLst (aNil)) [some x, some (.ref n), some (.ref k), some (.str s.w), some (.str s.t), some (plcD s.ps), some (valD s.v), some (cellD (wrC ls p s)), re] (S ++ T1) = .ok (.ref (S ++ T1).length) (S ++ T1 ++ [.lst (ex.map cellD)]) := by
    have eq : tB (m2 opEq (mV 3) (mC (.str "add"))) [some x, some (.ref n), some (.ref k), some (.str s.w), some (.str s.t), some (plcD s.ps), some (valD s.v), some (cellD (wrC ls p s)), re] (S ++ T1) = .ok (decide (s.w = "add")) (S ++ T1) := rfl
    unfold mIfE
    rw [eq, bind_ok]
    by_cases hw : s.w = "add"
    · rw [if_pos (decide_eq_true hw), hex, if_pos hw]
      exact lst_ok (ds := [cellD (wrC ls p s)]) rfl (by simp)
    · rw [if_neg (by rw [decide_eq_false hw]; simp), hex, if_neg hw]
      exact lst_ok (ds := []) rfl (by simp)
  have g1' : (S ++ T1 ++ [O.lst (ex.map cellD)])[r1]? = some (.lst (((ats s.v).map (atC ls p)).map cellD)) := get_old g1
  have eA := add_lst g1' (get_end (S ++ T1) (.lst (ex.map cellD))) (by simp; omega)
  have erd : ((ats s.v).map (atC ls p)).map cellD ++ ex.map cellD = (rdC ls p s).map cellD := by unfold rdC; rw [List.map_append, hex]
  rw [erd] at eA
  obtain ⟨S3, hS3⟩ : ∃ S3, S3 = S ++ T1 ++ [O.lst (ex.map cellD)] := ⟨_, rfl⟩
  rw [← hS3] at eA eIf
  have hl3 : S.length ≤ S3.length := by rw [hS3, List.length_append, List.length_append]; omega
  refine ws_seq (ws_asg (Ok.of (m2_ok (call_ok rfl rfl q1) eIf eA) (Ok.of (a := [some x, some (.ref n), some (.ref k), some (.str s.w), some (.str s.t), some (plcD s.ps), some (valD s.v), some (cellD (wrC ls p s)), some (.ref S3.length)]) rfl ?_)))
  have low3 : Low (S3 ++ [.lst ((rdC ls p s).map cellD)]) := by
    rw [hS3]
    exact Low.snoc (o := .lst _) (Low.snoc (o := .lst _) (low_app hlow hc1) (lowDs_map (f := cellD) fun _ _ => cell_low)) (lowDs_map (f := cellD) fun _ _ => cell_low)
  have old : ∀ i, i < S.length → (S3 ++ [O.lst ((rdC ls p s).map cellD)])[i]? = S[i]? := fun i hi => by
    rw [List.getElem?_append_left (by omega), hS3, List.getElem?_append_left (by simp; omega), List.getElem?_append_left hi]
  have hn4 : (S3 ++ [O.lst ((rdC ls p s).map cellD)])[n]? = some (.lst ds) := by rw [old n hnl]; exact hn
  have hl4 : (S3 ++ [O.lst ((rdC ls p s).map cellD)]).length = S3.length + 1 := by simp
  refine ws_expr (Ok.of (meth2_ok rfl hn4 (cons_ok (tup_ok (ds := [.ref S3.length, cellD (wrC ls p s)]) (cons_ok rfl (cons_ok rfl rfl)) (by simp)) rfl) (app_lst hn4 ha)) ?_)
  refine ⟨S3.length, rfl, hl3, by rw [List.getElem?_set_self (by omega)], by rw [List.getElem?_set_ne (by omega)]; exact get_end .., low3.set ?_, by rw [List.length_set]; omega, fun i i1 i2 => by rw [List.getElem?_set_ne (Ne.symm i2), old i i1]⟩
  refine lowDs_app (low_get low3 hn4) ?_
  show ((decide _ && (lowD _ (cellD _) && true)) && true) = true
  rw [cell_low]
  simp
theorem touched_ok {N : Nest} (hlow : Low S) (h : Drawn N) (hc : ∀ i, cntL (N.loops.take i) ≤ 300) : ∃ n ds S', m__law_touched [nestD N] S = .ok (.ref n) S' ∧ S'[n]? = some (.lst ds) ∧ TR S' n N.loops ds (qsN N) ∧ Low S' ∧ S.length ≤ n ∧ ∀ i, i < S.length → S'[i]? = S[i]? := by
  have gn := h.gn
  have gl : ∀ l ∈ N.loops, GL l ∧ (lvals l).length < 100 := fun l hl => (h.gl l hl).gl
  have hll := gn.ll
  have hb2 := h.b2
  suffices hh : Ok (m__law_touched [nestD N] S) (fun d S' => ∃ n ds, d = .ref n ∧ S'[n]? = some (.lst ds) ∧ TR S' n N.loops ds (qsN N) ∧ Low S' ∧ S.length ≤ n ∧ ∀ i, i < S.length → S'[i]? = S[i]?) by
    obtain ⟨d, S', e, n, ds, rfl, q⟩ := hh.get
    exact ⟨n, ds, S', e, q⟩
  unfold m__law_touched b__law_touched
  refine ok_mdef (ws_seq (ws_asg (Ok.of (lst_ok (ds := []) rfl (by decide)) (Ok.of (a := [some (nestD N), some (.ref S.length), none, none, none, none, none, none, none]) rfl ?_))))
  obtain ⟨m, S1, e1, ks, hm, ht, low1, hml, old1⟩ := law_points_ok (S := S ++ [O.lst []]) (N := N) (hlow.snoc rfl) gl (fun i => Nat.le_trans (hc i) (by omega)) (by omega) gn.nd
  have hml2 := (List.getElem?_eq_some_iff.mp hm).1
  rw [List.length_append, List.length_singleton] at hml old1
  have hpl : (pts N.loops).length ≤ 300 := by
    rw [pts_len fun l hl => (gl l hl).1]
    have := hc N.loops.length
    rw [List.take_length] at this
    exact this
  have hqs : ∀ (a b : List (List Int)), pts N.loops = a ++ b → (a.flatMap fun p => N.body.map fun s => (p, s)).length ≤ 600 := fun a b e => by
    have h1 : a.length ≤ 300 := by rw [e, List.length_append] at hpl; omega
    have : ∀ (a : List (List Int)), (a.flatMap fun p => N.body.map fun s => (p, s)).length = a.length * N.body.length := fun a => by
      induction a with
      | nil => simp
      | cons p r ih => rw [List.flatMap_cons, List.length_append, ih, List.length_map, List.length_cons, Nat.succ_mul, Nat.add_comm]
    rw [this]
    exact Nat.le_trans (Nat.mul_le_mul h1 hb2) (by omega)
  refine ws_seq (ws_for (items := ks.map .ref) (gd := fun S' => S'[m]? = some (.lst (ks.map .ref))) (S1 := S1) (fun i E S' => ∃ e2 e3 e4 e5 e6 e7 e8 ds, E = [some (nestD N), some (.ref S.length), e2, e3, e4, e5, e6, e7, e8] ∧ S'[S.length]? = some (.lst ds) ∧ TR S' S.length N.loops ds ((pts N.loops).take i |>.flatMap fun p => N.body.map fun s => (p, s)) ∧ Low S' ∧ S1.length ≤ S'.length ∧ ∀ i, i < S1.length → i ≠ S.length → S'[i]? = S1[i]?)
    (iA_ok (call_ok rfl rfl e1) (by unfold aiOf; simp only [hm])) ⟨none, none, none, none, none, none, none, [], rfl, by rw [old1 _ (by omega)]; exact get_end .., ⟨rfl, fun i p s hi => by simp at hi⟩, low1, Nat.le_refl _, fun _ _ _ => rfl⟩ ?_ ?_ ?_)
  · rintro i E S' ⟨_, _, _, _, _, _, _, _, _, _, _, _, _, f⟩
    show S'[m]? = _
    rw [f m hml2 (by omega)]; exact hm
  · rintro i d E S' hi ⟨e2, e3, e4, e5, e6, e7, e8, ds, rfl, q1, q2, q3, q4, q5⟩
    obtain ⟨k, hki, rfl⟩ := map_get hi
    have hil := (List.getElem?_eq_some_iff.mp hki).1
    obtain ⟨p, hpi⟩ : ∃ p, (pts N.loops)[i]? = some p := ⟨(pts N.loops)[i]'(by rw [← ht.1]; exact hil), List.getElem?_eq_getElem _⟩
    have hk := ht.2 i k p hki hpi
    have hkl := (List.getElem?_eq_some_iff.mp hk).1
    have hks : k ≠ S.length := fun e => by
      have : S1[S.length]? = some (.lst []) := by rw [old1 _ (by omega)]; exact get_end ..
      rw [e, this] at hk; cases hk
    have hp : p.length = N.loops.length := pts_mem (fun l hl => (gl l hl).1) (List.mem_of_getElem? hpi)
    refine Ok.of (a := [some (nestD N), some (.ref S.length), some (.ref k), e3, e4, e5, e6, e7, e8]) (S := S') rfl ?_
    unfold w__law_touched_2
    have hsz := hqs ((pts N.loops).take (i + 1)) ((pts N.loops).drop (i + 1)) (List.take_append_drop ..).symm
    rw [take_succ_get hpi, List.flatMap_append, List.length_append] at hsz
    refine ws_for (items := N.body.map stmD) (gd := fun _ => True) (S1 := S') (fun j E S2 => ∃ e3 e4 e5 e6 e7 e8 ds, E = [some (nestD N), some (.ref S.length), some (.ref k), e3, e4, e5, e6, e7, e8] ∧ S2[S.length]? = some (.lst ds) ∧ TR S2 S.length N.loops ds (((pts N.loops).take i |>.flatMap fun p => N.body.map fun s => (p, s)) ++ ((N.body.take j).map fun s => (p, s))) ∧ Low S2 ∧ S'.length ≤ S2.length ∧ ∀ i, i < S'.length → i ≠ S.length → S2[i]? = S'[i]?) rfl
      ⟨_, _, _, _, _, _, ds, rfl, q1, by simpa using q2, q3, Nat.le_refl _, fun _ _ _ => rfl⟩ (fun _ _ _ _ => trivial) ?_ ?_
    · rintro j d E S2 hj ⟨e3, e4, e5, e6, e7, e8, ds2, rfl, p1, p2, p3, p4, p5⟩
      obtain ⟨s, hsj, rfl⟩ := map_get hj
      have hk2 : S2[k]? = some (.dk (toldK N.loops p)) := by rw [p5 k (by omega) hks, q5 k hkl hks]; exact hk
      have hdl : ds2.length ≤ 1000 := by
        have e := p2.1
        rw [List.length_append, List.length_map, List.length_take] at e
        omega
      refine Ok.of (a := [some (nestD N), some (.ref S.length), some (.ref k), some (.str s.w), some (.str s.t), some (plcD s.ps), some (valD s.v), e7, e8]) (S := S2) rfl ?_
      refine (ltch3 p3 p1 hdl hk2 hp (h.st s (List.mem_of_getElem? hsj))).mono ?_ (fun _ _ z => z.elim)
      rintro E3 S3 ⟨r, rfl, o1, o2, o3, o4, o5, o6⟩
      refine ⟨_, _, _, _, _, _, _, rfl, o2, ?_, o4, by omega, fun i i1 i2 => by rw [o6 i (by omega) i2]; exact p5 i i1 i2⟩
      rw [take_succ_get hsj, List.map_append, ← List.append_assoc]
      exact TR.snoc (p2.mono o6) (by have := (List.getElem?_eq_some_iff.mp p1).1; omega) o3
    · rintro E S2 ⟨e3, e4, e5, e6, e7, e8, ds2, rfl, p1, p2, p3, p4, p5⟩
      rw [List.length_map, List.take_length] at p2
      refine ⟨_, _, _, _, _, _, _, ds2, rfl, p1, ?_, p3, by omega, fun i i1 i2 => by rw [p5 i (by omega) i2]; exact q5 i i1 i2⟩
      rw [take_succ_get hpi, List.flatMap_append]
      simpa using p2
  · rintro E S' ⟨e2, e3, e4, e5, e6, e7, e8, ds, rfl, q1, q2, q3, q4, q5⟩
    rw [List.length_map, ht.1, List.take_length] at q2
    refine ws_ret (Ok.of (a := .ref S.length) (S := S') rfl ?_)
    have : lowD S.length (.ref S.length) = false := by simp [lowD]
    unfold gc
    rw [this]
    exact Ok.ret ⟨S.length, ds, rfl, q1, q2, q3, Nat.le_refl _, fun i hi => by rw [q5 i (by omega) (by omega), old1 i (by omega), List.getElem?_append_left hi]⟩
end
end K02
end M

namespace M
namespace K02
open PySem L2
/-! ### comparisons -/
def Shp (n : Nat) (a : PyData) : Prop := a.canLay0 = true ∧ a.depth ≤ n
theorem shp_all {n : Nat} : ∀ {xs : List PyData}, (∀ x ∈ xs, Shp n x) → PyData.canLayAll0 xs = true ∧ PyData.depthAll xs ≤ n
  | [], _ => ⟨by simp only [PyData.canLayAll0], by simp only [PyData.depthAll]; omega⟩
  | x :: xs, h => by
    have h1 := h x (List.mem_cons_self ..)
    have h2 := shp_all fun y hy => h y (List.mem_cons_of_mem _ hy)
    exact ⟨by rw [PyData.canLayAll0, h1.1, h2.1]; rfl, by rw [PyData.depthAll]; exact Nat.max_le.mpr ⟨h1.2, h2.2⟩⟩
theorem shp_tup {n : Nat} {xs : List PyData} (h : ∀ x ∈ xs, Shp n x) : Shp (n + 1) (.tuple xs) := ⟨by rw [PyData.canLay0]; exact (shp_all h).1, by simp only [PyData.depth]; have := (shp_all h).2; omega⟩
theorem shp_list {n : Nat} {xs : List PyData} (h : ∀ x ∈ xs, Shp n x) : Shp (n + 1) (.list xs) := ⟨by rw [PyData.canLay0]; exact (shp_all h).1, by simp only [PyData.depth]; have := (shp_all h).2; omega⟩
theorem shp_int {i : Int} : Shp 0 (.int i) := ⟨by simp only [PyData.canLay0], by simp only [PyData.depth]; omega⟩
theorem Shp.le {n m : Nat} {a : PyData} (h : Shp n a) (hm : n ≤ m) : Shp m a := ⟨h.1, Nat.le_trans h.2 hm⟩
theorem ne_same {S : Sto} {x y : D} {a : PyData} {n : Nat} (hf : flatEq x y = none) (hx : toPy S x = some a) (hy : toPy S y = some a) (h : Shp n a) (hn : n ≤ 64) : opNe x y S = .ok (.bl false) S := by
  have hs : SeqAt.shaped a = true := by unfold SeqAt.shaped; rw [h.1, decide_eq_true (Nat.le_trans h.2 hn)]; rfl
  have e : eqD S x y = some true := by
    unfold eqD
    simp only [hf, hx, hy, hs, Bool.and_self, if_true]
    rw [SeqAt.eqv_refl a h.1]
  unfold opNe
  simp only [e, Bool.not_true]
theorem toPys_map {α : Type} {F : Nat → Option PyData} {g : α → D} {h : α → PyData} : ∀ {xs : List α}, (∀ x ∈ xs, toPyW F (g x) = some (h x)) → toPysW F (xs.map g) = some (xs.map h)
  | [], _ => rfl
  | x :: xs, q => by
    rw [List.map_cons, toPysW, q x (List.mem_cons_self ..), toPys_map fun y hy => q y (List.mem_cons_of_mem _ hy)]
    rfl
def pyRow (p : List Int) : PyData := .tuple (p.map .int)
def pyCell (c : Cell) : PyData := .tuple [.str c.1, .tuple (c.2.map .int)]
theorem py_row {F : Nat → Option PyData} {p : List Int} : toPyW F (rowD p) = some (pyRow p) := by
  show (toPysW F (p.map .int)).map PyData.tuple = _
  rw [toPys_ints]; rfl
theorem py_cell {F : Nat → Option PyData} {c : Cell} : toPyW F (cellD c) = some (pyCell c) := by
  have e : toPysW F [.str c.1, .tup (c.2.map .int)] = some [.str c.1, .tuple (c.2.map .int)] := by
    show (some (PyData.str c.1)).bind (fun x => ((toPyW F (.tup (c.2.map .int))).bind fun y => (some []).map (y :: ·)).map (x :: ·)) = _
    have : toPyW F (.tup (c.2.map .int)) = some (.tuple (c.2.map .int)) := by
      show (toPysW F (c.2.map .int)).map PyData.tuple = _
      rw [toPys_ints]; rfl
    rw [this]; rfl
  show (toPysW F [.str c.1, .tup (c.2.map .int)]).map PyData.tuple = _
  rw [e]; rfl
theorem shp_row {p : List Int} : Shp 1 (pyRow p) := shp_tup fun x hx => by
  obtain ⟨i, _, rfl⟩ := List.mem_map.mp hx
  exact shp_int
theorem shp_cell {c : Cell} (h : c.1 = "a" ∨ c.1 = "b") : Shp 2 (pyCell c) := shp_tup fun x hx => by
  have : x = .str c.1 ∨ x = pyRow c.2 := by simpa [pyRow] using hx
  rcases this with rfl | rfl
  · refine ⟨?_, by simp only [PyData.depth]; omega⟩
    rw [PyData.canLay0]
    rcases h with h | h <;> rw [h] <;> decide +kernel
  · exact shp_row
theorem ne_rows {S : Sto} {ps : List (List Int)} : opNe (.tup (ps.map rowD)) (.tup (ps.map rowD)) S = .ok (.bl false) S := by
  have e : toPy S (.tup (ps.map rowD)) = some (.tuple (ps.map pyRow)) := by
    show (toPysW _ (ps.map rowD)).map PyData.tuple = _
    rw [toPys_map fun x _ => py_row]; rfl
  exact ne_same (n := 2) rfl e e (shp_tup fun x hx => by obtain ⟨i, _, rfl⟩ := List.mem_map.mp hx; exact shp_row) (by decide)
theorem ne_inst {S : Sto} {N : Nest} {n : Nat} : opNe (instD N n) (instD N n) S = .ok (.bl false) S := by
  have e : toPy S (instD N n) = some (.tuple [pyRow (pN N n), .int (n % N.body.length : Nat)]) := by
    show ((toPyW _ (rowD (pN N n))).bind fun x => (some [PyData.int (n % N.body.length : Nat)]).map (x :: ·)).map PyData.tuple = _
    rw [py_row]; rfl
  exact ne_same (n := 2) rfl e e (shp_tup fun x hx => by
    have : x = pyRow (pN N n) ∨ x = .int (n % N.body.length : Nat) := by simpa using hx
    rcases this with rfl | rfl
    · exact shp_row
    · exact shp_int.le (by decide)) (by decide)
theorem ne_touch {S : Sto} {r1 r2 : Nat} {cs : List Cell} {c : Cell} (h1 : S[r1]? = some (.lst (cs.map cellD))) (h2 : S[r2]? = some (.lst (cs.map cellD))) (hc : ∀ c ∈ cs, c.1 = "a" ∨ c.1 = "b") (hc2 : c.1 = "a" ∨ c.1 = "b") : opNe (.tup [.ref r1, cellD c]) (.tup [.ref r2, cellD c]) S = .ok (.bl false) S := by
  have e : ∀ r, S[r]? = some (.lst (cs.map cellD)) → toPy S (.tup [.ref r, cellD c]) = some (.tuple [.list (cs.map pyCell), pyCell c]) := fun r h => by
    show ((listPy (fun _ => none) S r).bind fun x => ((toPyW _ (cellD c)).bind fun y => (some []).map (y :: ·)).map (x :: ·)).map PyData.tuple = _
    have : listPy (fun _ => none) S r = some (.list (cs.map pyCell)) := by
      unfold listPy
      simp only [h]
      rw [toPys_map fun x _ => py_cell]; rfl
    rw [this, py_cell]; rfl
  exact ne_same (n := 4) rfl (e r1 h1) (e r2 h2) (shp_tup fun x hx => by
    have : x = .list (cs.map pyCell) ∨ x = pyCell c := by simpa using hx
    rcases this with rfl | rfl
    · exact shp_list fun y hy => by obtain ⟨z, hz, rfl⟩ := List.mem_map.mp hy; exact shp_cell (hc z hz)
    · exact (shp_cell hc2).le (by decide)) (by decide)
/-! ### rows of the told points -/
theorem envP_cons {l : NLoop} {ls : List NLoop} {v : Int} {p : List Int} {x : Str} : envP (l :: ls) (v :: p) x = if l.x = x then v else envP ls p x := by
  unfold envP
  rw [List.zip_cons_cons, List.find?_cons]
  by_cases h : l.x = x
  · simp [h]
  · simp [h]
theorem envP_map : ∀ {ls : List NLoop} {p : List Int}, p.length = ls.length → (ls.map (·.x)).Nodup → ls.map (fun l => envP ls p l.x) = p
  | [], [], _, _ => rfl
  | [], _ :: _, h, _ => by simp at h
  | _ :: _, [], h, _ => by simp at h
  | l :: ls, v :: p, h, hn => by
    rw [List.map_cons, List.nodup_cons] at hn
    rw [List.map_cons, envP_cons, if_pos rfl]
    have : ls.map (fun m => envP (l :: ls) (v :: p) m.x) = ls.map fun m => envP ls p m.x := List.map_congr_left fun m hm => by
      rw [envP_cons, if_neg fun e => hn.1 (by rw [e]; exact List.mem_map.mpr ⟨m, hm, rfl⟩)]
    rw [this, envP_map (by simpa using h) hn.2]
theorem qs_eq {N : Nest} (g : GN N) {n : Nat} (hn : n < cnt N) : (qsN N)[n]? = some (pN N n, stN N n) := by
  have hb := g.b1
  have : qsN N = (List.range (cntL N.loops * N.body.length)).map fun n => (pN N n, stN N n) := by
    unfold qsN
    rw [pts_pt _ rfl g.gl, range_mul, List.map_flatMap, List.flatMap_map]
    congr 1
    funext k
    rw [List.map_map]
    have e : N.body = (List.range N.body.length).map fun j => N.body.getD j ⟨"", "", [], .num 0⟩ := by
      refine List.ext_getElem (by simp) fun i h1 h2 => ?_
      simp [h1]
    conv => lhs; rw [e]
    rw [List.map_map]
    refine List.map_congr_left fun j hj => ?_
    have hj := List.mem_range.mp hj
    show (pt N.loops k, N.body.getD j _) = (pN N (k * N.body.length + j), stN N (k * N.body.length + j))
    unfold pN stN
    rw [Nat.mul_comm k, Nat.mul_add_div (by omega), Nat.div_eq_of_lt hj, Nat.add_zero, Nat.mul_add_mod, Nat.mod_eq_of_lt hj]
  rw [this, List.getElem?_map, List.getElem?_range (by rw [Nat.mul_comm]; exact hn)]
  rfl
end K02
end M

namespace M
namespace K02
open PySem L2
/-! ### NoInstance -/
abbrev dU (a b : Str) (x y : Bool) : List (Key × D) := mergeD [] [(.inr a, .bl x), (.inr b, .bl y)]
abbrev K9 : List (Key × D) := setK (mergeD (mergeD (mergeD (mergeD (dU "no instance" "no cell" true false) (dU "bad order" "bad plan" false false)) (dU "bad rule" "bad nest" false false)) (dU "bad layout" "bad size" false false)) (dU "no tiling" "no back" false false)) (.inr "no text") (.bl false)
abbrev T9 : Sto := [.ex "NoInstance" [], .dk K9, .dk (dU "bad order" "bad plan" false false), .dk (dU "bad rule" "bad nest" false false), .dk (dU "bad layout" "bad size" false false), .dk (dU "no tiling" "no back" false false)]
theorem heard_no {S : Sto} (hlow : Low S) : mHeard (okL ["NoInstance"]) 7 h__law_heard (.exc "NoInstance" [] S) S.length = .ok (.tup [.str "no instance"]) S := by
  have hx : ∀ {E : En} {T : Sto} {l : List (Str × Bool)} {b : Bool} {r}, E = [none, some (.ref (S.length + 0)), none, none] ++ r → T[0]? = some (.ex "NoInstance" []) → subL l "NoInstance" = some b → m1 (fIsX (subL l)) (mV 1) E (S ++ T) = .ok (.bl b) (S ++ T) := by
    rintro E T l b r rfl h1 h2
    exact isx_ok rfl h1 h2
  have hr : ∃ S2, h__law_heard (eEx 7 S.length) (S ++ [.ex "NoInstance" []]) = .ok (.rt (.tup [.str "no instance"])) (S ++ S2) := by
    unfold h__law_heard
    refine ⟨T9 ++ [.lst [.str "no instance"]], ?_⟩
    refine seq_ok (if_no (S1 := S ++ [.ex "NoInstance" []]) rfl rfl) ?_
    refine seq_ok (asg_ok (disp2_ok (n := 1) (hx (r := [none, none, none]) rfl rfl rfl) (hx (r := [none, none, none]) rfl rfl rfl) rfl) (E1 := [none, some (.ref (S.length + 0)), none, none, some (.ref (S.length + 1)), none, none]) rfl) ?_
    have hy : ∀ {E : En} {T : Sto} {l : List (Str × Bool)} {b : Bool}, E = [none, some (.ref (S.length + 0)), none, none, some (.ref (S.length + 1)), none, none] → T[0]? = some (.ex "NoInstance" []) → subL l "NoInstance" = some b → m1 (fIsX (subL l)) (mV 1) E (S ++ T) = .ok (.bl b) (S ++ T) := by
      rintro E T l b rfl h1 h2
      exact isx_ok rfl h1 h2
    refine seq_ok (expr_ok (upd_ok (i := 1) (j := 2) rfl rfl (disp2_ok (n := 2) (hy rfl rfl rfl) (hy rfl rfl rfl) rfl) rfl rfl (by decide) (by decide))) ?_
    refine seq_ok (expr_ok (upd_ok (i := 1) (j := 3) rfl rfl (disp2_ok (n := 3) (hy rfl rfl rfl) (hy rfl rfl rfl) rfl) rfl rfl (by decide) (by decide))) ?_
    refine seq_ok (expr_ok (upd_ok (i := 1) (j := 4) rfl rfl (disp2_ok (n := 4) (hy rfl rfl rfl) (hy rfl rfl rfl) rfl) rfl rfl (by decide) (by decide))) ?_
    refine seq_ok (expr_ok (upd_ok (i := 1) (j := 5) rfl rfl (disp2_ok (n := 5) (hy rfl rfl rfl) (hy rfl rfl rfl) rfl) rfl rfl (by decide) (by decide))) ?_
    refine seq_ok (asg_ok (hy rfl rfl rfl) (gS_ok rfl rfl (set_dk (at_k (k := 1)) rfl (by decide)))) ?_
    rw [set_k]
    refine (congrArg (fun U => (sSeq _ _ _ (S ++ U))) (show _ = T9 from rfl)).trans ?_
    refine seq_ok (if_no (S1 := S ++ _) (by
      unfold tV
      rw [hy rfl rfl rfl]; rfl) rfl) ?_
    refine seq_ok (if_no (S1 := S ++ _) (by
      unfold tV
      rw [hy rfl rfl rfl]; rfl) rfl) ?_
    have hw := words_ok (S := S) (i := 1) (E := [none, some (.ref (S.length + 0)), none, none, some (.ref (S.length + 1)), none, none]) (T := T9) (kvs := K9) (by kernel_rfl) (by decide +kernel) (by rfl) (by decide +kernel) (fun _ _ => rfl) (fun _ => rfl) (fun _ _ => rfl)
    have hw := hw.trans (congrArg (fun l => Rs.ok l (S ++ T9)) (by kernel_rfl : _ = [D.str "no instance"]))
    have ha := ad_ok hw
    rw [List.length_append, List.append_assoc] at ha
    refine seq_ok (asg_ok (E1 := [none, some (.ref (S.length + 0)), none, none, some (.ref (S.length + 1)), some (.ref (S.length + 6)), none]) ha rfl) ?_
    have h1 : tB (m2 opEq (mN fLen (aCons (mV 5) (aNil))) (mC (.int 1))) [none, some (.ref (S.length + 0)), none, none, some (.ref (S.length + 1)), some (.ref (S.length + 6)), none] (S ++ (T9 ++ [.lst [.str "no instance"]])) = .ok true (S ++ (T9 ++ [.lst [.str "no instance"]])) :=
      tB_ok (m2_ok (n1_ok rfl (len_lst (at_k (k := 6)))) rfl rfl)
    have h2 : tV (m1 (fIsX (subL [("NoInstance", true)])) (mV 1)) [none, some (.ref (S.length + 0)), none, none, some (.ref (S.length + 1)), some (.ref (S.length + 6)), none] (S ++ (T9 ++ [.lst [.str "no instance"]])) = .ok true (S ++ (T9 ++ [.lst [.str "no instance"]])) :=
      tV_bl (isx_ok (i := 0) rfl rfl rfl)
    refine ret_ok ?_
    unfold mIfE
    rw [and_ok h1 h2, bind_ok, if_pos rfl]
    exact tup_ok (cons_ok (m2_ok rfl rfl (ix_lst (at_k (k := 6)) rfl)) rfl) (by decide)
  obtain ⟨S2, e⟩ := hr
  unfold mHeard
  simp only []
  rw [if_pos (by decide), e]
  exact gc_cut (by rfl) hlow
end K02
end M

namespace M
namespace K02
open PySem L2
/-! ### k02: the law -/
theorem Rdy.grow {B S S' : Sto} {c : Nat} (h : Rdy B S c) (hl : Low S') (f : ∀ i, i < S.length → S'[i]? = S[i]?) : Rdy B S' c := by
  have h2 := h.two
  refine ⟨⟨h.tn.ne, hl, by rw [f _ (by omega)]; exact h.tn.tw, ?_⟩, fun i hi => by rw [f i (by omega)]; exact h.tb i hi⟩
  obtain ⟨rs, a1, a2, a3⟩ := h.tn.ex
  exact ⟨rs, by rw [f _ (by omega)]; exact a1, a2, a3⟩
theorem cntL_le : ∀ {ls : List NLoop}, (∀ l ∈ ls, (lvals l).length ≤ 5) → cntL ls ≤ 5 ^ ls.length
  | [], _ => Nat.le_refl _
  | l :: ls, h => by
    rw [cntL, List.length_cons, Nat.pow_succ, Nat.mul_comm (5 ^ _)]
    exact Nat.mul_le_mul (h l (List.mem_cons_self ..)) (cntL_le fun m hm => h m (List.mem_cons_of_mem _ hm))
theorem GLd.five {l : NLoop} (h : GLd l) : (lvals l).length ≤ 5 := by
  obtain ⟨k, hk, e⟩ := h.c
  have h2 : l.lo < l.hi ∧ l.hi ≤ l.lo + 5 := by
    rcases h.b with hb | hb <;> rw [hb] at e <;> omega
  have h3 : 1 ≤ l.st := by rcases h.b with hb | hb <;> omega
  rw [lvals_len]
  have := rgN_le (i := l.lo) (j := l.hi) h3
  omega
theorem Drawn.cnt {N : Nest} (h : Drawn N) (i : Nat) : cntL (N.loops.take i) ≤ 125 := by
  have h3 : N.loops.length ≤ 3 := by
    obtain ⟨m, m1, m3, e⟩ := h.nm
    rw [← List.length_map (f := (·.x)), e, List.length_take]
    show min m 3 ≤ 3
    omega
  refine Nat.le_trans (cntL_le fun l hl => (h.gl l (List.mem_of_mem_take hl)).five) ?_
  have : (N.loops.take i).length ≤ 3 := by rw [List.length_take]; omega
  exact Nat.le_trans (Nat.pow_le_pow_right (by decide) this) (by decide)
/-- what the law holds due -/
def dueL (N : Nest) (ps : List (List Int)) : List D := ps.flatMap fun p => (List.range N.body.length).map fun (j : Nat) => D.tup [rowD p, .int (j : Nat)]
theorem due_eq {N : Nest} (g : GN N) : dueL N (pts N.loops) = (List.range (cnt N)).map (instD N) := by
  have hb := g.b1
  unfold dueL cnt
  rw [Nat.mul_comm, pts_pt _ rfl g.gl, range_mul, List.map_flatMap, List.flatMap_map]
  congr 1
  funext k
  rw [List.map_map]
  refine List.map_congr_left fun j hj => ?_
  have hj := List.mem_range.mp hj
  show D.tup [rowD (pt N.loops k), .int (j : Nat)] = instD N (k * N.body.length + j)
  unfold instD pN
  rw [Nat.mul_comm k, Nat.mul_add_div (by omega), Nat.div_eq_of_lt hj, Nat.add_zero, Nat.mul_add_mod, Nat.mod_eq_of_lt hj]
  rfl
theorem cell_name {ls : List NLoop} {v : Val} (h : GVl ls v) {p : List Int} : ∀ c ∈ (ats v).map (atC ls p), c.1 = "a" ∨ c.1 = "b" := by
  intro c hc
  obtain ⟨u, hu, rfl⟩ := List.mem_map.mp hc
  clear hc
  induction v with
  | num _ => cases hu
  | lop _ => cases hu
  | «at» t ps =>
    have := List.mem_singleton.mp hu
    subst this
    rcases h.1 with ⟨e, _⟩ | ⟨e, _⟩
    · exact .inl e
    · exact .inr e
  | two w a b iha ihb =>
    rcases List.mem_append.mp hu with hu | hu
    · exact iha h.2.1 hu
    · exact ihb h.2.2.1 hu
theorem ne_words {S : Sto} : opNe (.tup [.str "no instance"]) (.tup [.str "no instance"]) S = .ok (.bl false) S := by kernel_rfl
section
variable {P : Addr} {S : Sto} {c : Nat} {ns : List Int} {N : Nest}
abbrev B1s (P : Addr) : Sto := [.tb P "law.<locals>.<lambda>"]
abbrev EL (ns : List Int) (t : Nat) (k ne ro du rw to nh pa : Option D) : En := [some (.rl ns), some (.ref t), k, ne, ro, du, rw, to, nh, pa, none, none, none]
theorem heard_at {E : En} {m : En → Sto → Rs D} (r : Rdy (B1s P) S c) (h : m E S = .exc "NoInstance" [] S) : mLam P "law.<locals>.<lambda>" 0 (okL ["NoInstance"]) 7 h__law_heard m E S = .ok (.tup [.str "no instance"]) S := by
  have hT : S[0]? = some (.tb P "law.<locals>.<lambda>") := r.tb 0 (by simp)
  unfold mLam
  rw [hT]
  show (if P = P ∧ ("law.<locals>.<lambda>" : Str) = "law.<locals>.<lambda>" then mHeard (okL ["NoInstance"]) 7 h__law_heard (m E S) S.length else .bad) = _
  rw [if_pos ⟨rfl, rfl⟩, h]
  exact heard_no r.low
theorem rows_ok {S2 : Sto} {m : Nat} {k ro du rw to nh pa : Option D} (h : Drawn N) (e : m__law_points [nestD N] S = .ok (.ref m) S2) (q : PtL S N.loops (pts N.loops) m S2) {t : Nat} :
    mComp (iA (mN (mCl 1 m__law_points) (aCons (mV 3) (aNil)))) [10] (gN 10) (tYesM) (mTL fTupTL (mComp (iA (m2 opIx (mV 3) (mC (.int 1)))) [11] (gN 11) (tYesM) (m2 opIx (mV 10) (m2 opIx (mV 11) (mC (.int 0)))))) (EL ns t k (some (nestD N)) ro du rw to nh pa) S = .ok ((pts N.loops).map rowD) S2 := by
  obtain ⟨ks, q1, q2, q3, q4, q5⟩ := q
  have gn := h.gn
  have hll := gn.ll
  have hpl : (pts N.loops).length ≤ 125 := by
    rw [pts_len gn.gl]
    have := h.cnt N.loops.length
    rwa [List.take_length] at this
  have e1 : ks.map D.ref = (ks.zip (pts N.loops)).map fun z => D.ref z.1 := by
    conv => lhs; rw [← List.map_fst_zip (l₁ := ks) (l₂ := pts N.loops) (by rw [q2.1]; exact Nat.le_refl _), List.map_map]
    rfl
  have e2 : (pts N.loops).map rowD = (ks.zip (pts N.loops)).map fun z => rowD z.2 := by
    conv => lhs; rw [← List.map_snd_zip (l₁ := ks) (l₂ := pts N.loops) (by rw [q2.1]; exact Nat.le_refl _), List.map_map]
    rfl
  rw [e2]
  refine mComp_all (xs := ks.zip (pts N.loops)) (fun z => D.ref z.1) (fun z => rowD z.2) (gd := fun S => S[m]? = some (.lst (ks.map .ref))) (iA_ok (call_ok rfl rfl e) (by rw [← e1]; unfold aiOf; simp only [q1])) q1 (fun z hz => ?_) (by rw [List.length_zip]; omega)
  obtain ⟨i, hi⟩ := List.mem_iff_getElem?.mp hz
  obtain ⟨kk, p⟩ := z
  obtain ⟨a1, a2⟩ := List.getElem?_zip_eq_some.mp hi
  have a1 : ks[i]? = some kk := a1
  have a2 : (pts N.loops)[i]? = some p := a2
  have hk := q2.2 i kk p a1 a2
  have hp : p.length = N.loops.length := pts_mem gn.gl (List.mem_of_getElem? a2)
  refine body_yes (E1 := [some (.rl ns), some (.ref t), k, some (nestD N), ro, du, rw, to, nh, pa, some (.ref kk), none, none]) rfl ?_
  have eI : mComp (iA (m2 opIx (mV 3) (mC (.int 1)))) [11] (gN 11) (tYesM) (m2 opIx (mV 10) (m2 opIx (mV 11) (mC (.int 0)))) [some (.rl ns), some (.ref t), k, some (nestD N), ro, du, rw, to, nh, pa, some (.ref kk), none, none] S2 = .ok (N.loops.map fun l => .int (envP N.loops p l.x)) S2 := by
    refine mComp_all lopD (fun l => .int (envP N.loops p l.x)) (gd := fun _ => True) rfl trivial (fun l hl => ?_) (by omega)
    refine body_yes (E1 := [some (.rl ns), some (.ref t), k, some (nestD N), ro, du, rw, to, nh, pa, some (.ref kk), some (lopD l), none]) rfl ?_
    exact m2_ok rfl rfl (ix_dk hk rfl (told_get hp (List.mem_map.mpr ⟨l, hl, rfl⟩)))
  have e3 : (N.loops.map fun l => D.int (envP N.loops p l.x)) = p.map .int := by
    have := envP_map hp gn.nd
    conv => rhs; rw [← this, List.map_map]
    rfl
  rw [e3] at eI
  exact tl_ok eI rfl
theorem due_step {w8 : En → Sto → Rs Fl} (h8 : w_law_8 P = w8) {k ro to nh pa : Option D} {d : Nat} {ps : List (List Int)} {p : List Int} {t : Nat} (hd : S[d]? = some (.lst (dueL N ps))) (hl : (dueL N ps).length ≤ 1000) (hb : N.body.length ≤ 4) :
    WS (w8 (EL ns t k (some (nestD N)) ro (some (.ref d)) (some (rowD p)) to nh pa) S) (fun E' S' => ∃ d' T, E' = EL ns t k (some (nestD N)) ro (some (.ref d')) (some (rowD p)) to nh pa ∧ S' = S ++ T ∧ S'[d']? = some (.lst (dueL N (ps ++ [p]))) ∧ lowS 0 T = true) (fun _ _ => False) := by
  rw [← h8]
  unfold w_law_8
  have er : rangeD 0 ((N.body.length : Nat) : Int) = (List.range N.body.length).map fun (j : Nat) => D.int (j : Nat) := by
    unfold rangeD
    simp
  have elen : mN fLen (aCons (m2 opIx (mV 3) (mC (.int 2))) aNil) (EL ns t k (some (nestD N)) ro (some (.ref d)) (some (rowD p)) to nh pa) S = .ok (.int (N.body.length : Nat)) S := by
    refine n1_ok (m2_ok rfl rfl rfl) ?_
    show Rs.ok (D.int ((N.body.map stmD).length : Nat)) S = _
    rw [List.length_map]
  have eR := r1_at (t := aCons (mN fLen (aCons (m2 opIx (mV 3) (mC (.int 2))) aNil)) aNil) (n := N.body.length) (cons_ok elen rfl) (by omega)
  rw [er] at eR
  have eC : mComp (fun E S => ((aCons (mN fLen (aCons (m2 opIx (mV 3) (mC (.int 2))) (aNil))) (aNil)) E S).bind aiR1) [12] (gN 12) (tYesM) (mTup (aCons (mV 6) (aCons (mV 12) (aNil)))) (EL ns t k (some (nestD N)) ro (some (.ref d)) (some (rowD p)) to nh pa) S = .ok ((List.range N.body.length).map fun (j : Nat) => D.tup [rowD p, .int (j : Nat)]) S := by
    refine mComp_all (fun (j : Nat) => D.int (j : Nat)) (fun (j : Nat) => D.tup [rowD p, .int (j : Nat)]) (gd := fun _ => True) eR trivial (fun j _ => ?_) (by simp; omega)
    exact body_yes (E1 := [some (.rl ns), some (.ref t), k, some (nestD N), ro, some (.ref d), some (rowD p), to, nh, pa, none, none, some (.int (j : Nat))]) rfl (tup_ok (cons_ok rfl (cons_ok rfl rfl)) (by simp))
  have e1 : dueL N (ps ++ [p]) = dueL N ps ++ (List.range N.body.length).map fun (j : Nat) => D.tup [rowD p, .int (j : Nat)] := by
    unfold dueL
    rw [List.flatMap_append]
    simp
  have eA := add_lst (get_old (o := .lst ((List.range N.body.length).map fun (j : Nat) => D.tup [rowD p, .int (j : Nat)])) hd) (get_end S (.lst ((List.range N.body.length).map fun (j : Nat) => D.tup [rowD p, .int (j : Nat)]))) (by simp; omega)
  rw [← e1] at eA
  have dlow : ∀ ps, lowDs 0 (dueL N ps) = true := fun ps => lowDs_all fun x hx => by
    obtain ⟨p, _, hx⟩ := List.mem_flatMap.mp hx
    obtain ⟨j, _, rfl⟩ := List.mem_map.mp hx
    show (lowD 0 (rowD p) && (true && true)) = true
    rw [row_low]; rfl
  have eL := ad_ok eC
  generalize hmm : mComp (fun E S => ((aCons (mN fLen (aCons (m2 opIx (mV 3) (mC (.int 2))) (aNil))) (aNil)) E S).bind aiR1) [12] (gN 12) (tYesM) (mTup (aCons (mV 6) (aCons (mV 12) (aNil)))) = mm at eL ⊢
  refine ws_asg (Ok.of (m2_ok rfl eL eA) (Ok.of (a := EL ns t k (some (nestD N)) ro (some (.ref (S ++ [O.lst ((List.range N.body.length).map fun (j : Nat) => D.tup [rowD p, .int (j : Nat)])]).length)) (some (rowD p)) to nh pa) rfl ?_))
  refine ⟨_, [.lst ((List.range N.body.length).map fun (j : Nat) => D.tup [rowD p, .int (j : Nat)]), .lst (dueL N (ps ++ [p]))], rfl, by simp, get_end .., cl_cons (o := .lst _) (lowDs_map fun j _ => ?_) (cl_cons (o := .lst _) (dlow _) rfl)⟩
  show (lowD 0 (rowD p) && (true && true)) = true
  rw [row_low]; rfl
end
end K02
end M

namespace M
namespace K02
open PySem L2
/-! ### k02: a turn of the law -/
section
variable {P : Addr} {S : Sto} {c : Nat} {ns : List Int} {N : Nest}
/-- an instance of it -/
theorem inst_step {k ro du rw nh pa : Option D} {to n t : Nat} {ds : List D} (h : Drawn N) (hlow : Low S) (ht : S[to]? = some (.lst ds)) (htr : TR S to N.loops ds (qsN N)) (hn : n < cnt N) :
    WS (w_law_11 P (EL ns t k (some (nestD N)) ro du rw (some (.ref to)) (some (.int (n : Nat))) (some (instD N n))) S) (fun E' S' => E' = EL ns t k (some (nestD N)) ro du rw (some (.ref to)) (some (.int (n : Nat))) (some (instD N n)) ∧ S' = S ++ [.lst ((rdN N n).map cellD)]) (fun _ _ => False) := by
  have gn := h.gn
  unfold w_law_11
  refine ws_seq (ws_no (Ok.of (tB_ok (m2_ok (call_ok rfl rfl (instance_ok hlow gn hn)) rfl ne_inst)) ⟨rfl, ws_nil ?_⟩))
  obtain ⟨r, r1, r2, r3⟩ := htr.2 n _ _ (qs_eq gn hn)
  have eW : wrC N.loops (pN N n) (stN N n) = wrN N n := rfl
  have eR : rdC N.loops (pN N n) (stN N n) = rdN N n := rfl
  rw [eW] at r2
  rw [eR] at r3
  have gst := h.st _ (stN_mem (n := n) gn)
  have nm : (wrN N n).1 = "a" ∨ (wrN N n).1 = "b" := by
    rcases gst.t with ⟨e, _⟩ | ⟨e, _⟩
    · exact .inl e
    · exact .inr e
  have nmr : ∀ c ∈ rdN N n, c.1 = "a" ∨ c.1 = "b" := fun c hc => by
    rcases List.mem_append.mp hc with hc | hc
    · exact cell_name gst.v c hc
    · by_cases hw : (stN N n).w = "add"
      · rw [if_pos hw] at hc
        rw [List.mem_singleton.mp hc]
        exact nm
      · rw [if_neg hw] at hc
        cases hc
  have low2 : Low (S ++ [.lst ((rdN N n).map cellD)]) := Low.snoc (o := .lst _) hlow (lowDs_map (f := cellD) fun _ _ => cell_low)
  have hl : n < ds.length := (List.getElem?_eq_some_iff.mp r2).1
  have eI : opIx (.ref to) (.int (n : Nat)) (S ++ [.lst ((rdN N n).map cellD)]) = .ok (.tup [.ref r, cellD (wrN N n)]) (S ++ [.lst ((rdN N n).map cellD)]) := ix_lst (get_old ht) (by rw [atI_nat hl]; exact r2)
  have eT : mTup (aCons (mN fList (aCons (mN (mCl 2 m_reads_of) (aCons (mV 3) (aCons (mV 8) (aNil)))) (aNil))) (aCons (mNK 1 1 (mCl 2 m_writes_of) (aCons (mV 3) (aNil)) (aCons (mV 8) (aNil))) (aNil))) (EL ns t k (some (nestD N)) ro du rw (some (.ref to)) (some (.int (n : Nat))) (some (instD N n))) S = .ok (.tup [.ref S.length, cellD (wrN N n)]) (S ++ [.lst ((rdN N n).map cellD)]) :=
    tup_ok (cons_ok (n1_ok (call_ok rfl rfl (reads_ok hlow gn hn)) rfl) (cons_ok (nk_ok rfl rfl ⟨rfl, rfl⟩ rfl (writes_ok low2 gn hn)) rfl)) (by simp)
  refine ws_no (Ok.of (tB_ok (m2_ok eT (m2_ok rfl rfl eI) (ne_touch (get_end ..) (get_old r3) nmr nm))) ⟨rfl, ws_nil ⟨rfl, rfl⟩⟩)
/-- nothing stands there -/
theorem out_step {k ro du rw to pa : Option D} {x : D} {t : Nat} (h : Drawn N) (r : Rdy (B1s P) S c) (hx : m_is_whole [x, .int 0, .int ((cnt N : Nat) - 1)] S = .ok (.bl false) S) :
    WS (w_law_16 P (EL ns t k (some (nestD N)) ro du rw to (some x) pa) S) (fun E' S' => E' = EL ns t k (some (nestD N)) ro du rw to (some x) pa ∧ S' = S) (fun _ _ => False) := by
  unfold w_law_16
  refine ws_no (Ok.of (tB_ok (m2_ok (heard_at r (clx_exc rfl rfl (instance_no r.low h.gn hx))) (tup_ok rfl (by decide)) ne_words)) ⟨rfl, ws_nil ⟨rfl, rfl⟩⟩)
theorem turn_step {w2 : En → Sto → Rs Fl} (h2 : w_law_2 P = w2) {k ne ro du rw to nh pa : Option D} (h0 : Rdy (B1s P) S c) (hc : c ≤ 5000) :
    WS (w2 (EL ns ((B1s P).length + 1) k ne ro du rw to nh pa) S) (fun E' S' => (∃ ne' ro' du' rw' to' nh' pa', E' = EL ns ((B1s P).length + 1) k ne' ro' du' rw' to' nh' pa') ∧ ∃ c', Rdy (B1s P) S' c' ∧ c' ≤ c + 600) (fun _ _ => False) := by
  rw [← h2]
  unfold w_law_2
  obtain ⟨N, S1, c1, e1, h, r1, hc1, l1, f1⟩ := a_nest_ok (ns := ns) h0 hc
  have gn := h.gn
  have hll := gn.ll
  have hb1 := h.b1
  have hb2 := h.b2
  generalize h8 : w_law_8 P = w8
  refine ws_seq (ws_asg (Ok.of (call_ok rfl rfl e1) (Ok.of (a := EL ns ((B1s P).length + 1) k (some (nestD N)) ro du rw to nh pa) rfl ?_)))
  have gl : ∀ l ∈ N.loops, GL l ∧ (lvals l).length < 100 := fun l hl => (h.gl l hl).gl
  obtain ⟨m, S2, e2, q2⟩ := law_points_ok (S := S1) (N := N) r1.low gl (fun i => Nat.le_trans (h.cnt i) (by decide)) (by omega) gn.nd
  have hl2 := q2.len
  have low2 : Low S2 := by obtain ⟨_, _, _, h, _⟩ := q2; exact h
  have f2 : ∀ i, i < S1.length → S2[i]? = S1[i]? := by obtain ⟨_, _, _, _, _, h⟩ := q2; exact h
  have r2 : Rdy (B1s P) S2 c1 := r1.grow low2 f2
  obtain ⟨S3, hS3⟩ : ∃ S3, S3 = S2 ++ [O.lst ((pts N.loops).map rowD)] := ⟨_, rfl⟩
  have eR := ad_ok (rows_ok (ns := ns) (k := k) (ro := ro) (du := du) (rw := rw) (to := to) (nh := nh) (pa := pa) (t := (B1s P).length + 1) h e2 q2)
  rw [← hS3] at eR
  refine ws_seq (ws_asg (Ok.of eR (Ok.of (a := EL ns ((B1s P).length + 1) k (some (nestD N)) (some (.ref S2.length)) du rw to nh pa) rfl ?_)))
  have r3 : Rdy (B1s P) S3 c1 := by rw [hS3]; exact Rdy.snoc (o := .lst _) r2 (lowDs_map fun _ _ => row_low)
  have g3 : S3[S2.length]? = some (.lst ((pts N.loops).map rowD)) := by rw [hS3]; exact get_end ..
  have ep := points_of_ok (S := S3) (N := N) r3.low gn.gl (fun i => Nat.le_trans (h.cnt i) (by decide)) (by omega)
  refine ws_seq (ws_no (Ok.of (tB_ok (m2_ok (call_ok rfl rfl ep) (n1_ok rfl (tup_lst g3)) ne_rows)) ⟨rfl, ws_nil ?_⟩))
  refine ws_seq (ws_asg (Ok.of (lst_ok (ds := []) rfl (by decide)) (Ok.of (a := EL ns ((B1s P).length + 1) k (some (nestD N)) (some (.ref S2.length)) (some (.ref S3.length)) rw to nh pa) rfl ?_)))
  have r4 : Rdy (B1s P) (S3 ++ [.lst []]) c1 := r3.snoc rfl
  obtain ⟨S4, hS4⟩ : ∃ S4, S4 = S3 ++ [O.lst []] := ⟨_, rfl⟩
  rw [← hS4] at r4 ⊢
  have g4 : S4[S2.length]? = some (.lst ((pts N.loops).map rowD)) := by rw [hS4]; exact get_old g3
  have g4d : S4[S3.length]? = some (.lst (dueL N [])) := by rw [hS4]; exact get_end ..
  have hpl : (pts N.loops).length ≤ 125 := by
    rw [pts_len gn.gl]
    have := h.cnt N.loops.length
    rwa [List.take_length] at this
  have hdl : ∀ ps : List (List Int), (dueL N ps).length = ps.length * N.body.length := fun ps => by
    unfold dueL
    induction ps with
    | nil => simp
    | cons p r ih => rw [List.flatMap_cons, List.length_append, ih, List.length_map, List.length_range, List.length_cons, Nat.succ_mul, Nat.add_comm]
  have e4 : iA (mV 4) (EL ns ((B1s P).length + 1) k (some (nestD N)) (some (.ref S2.length)) (some (.ref S3.length)) rw to nh pa) S4 = .ok ⟨(pts N.loops).map rowD, fun S => S[S2.length]? = some (.lst ((pts N.loops).map rowD)), none⟩ S4 := by
    refine iA_ok (x := .ref S2.length) (S1 := S4) rfl ?_
    unfold aiOf
    simp only [g4]
  have s2l : S2.length < S4.length := (List.getElem?_eq_some_iff.mp g4).1
  refine ws_seq (ws_for (items := (pts N.loops).map rowD) (gd := fun S => S[S2.length]? = some (.lst ((pts N.loops).map rowD))) (fun i E S' => ∃ d rw' T, E = EL ns ((B1s P).length + 1) k (some (nestD N)) (some (.ref S2.length)) (some (.ref d)) rw' to nh pa ∧ S' = S4 ++ T ∧ S'[d]? = some (.lst (dueL N ((pts N.loops).take i))) ∧ lowS 0 T = true) e4 ⟨S3.length, rw, [], rfl, by simp, g4d, rfl⟩ ?_ ?_ ?_)
  · rintro i E S' ⟨d, rw', T, rfl, rfl, _, _⟩
    show (S4 ++ T)[S2.length]? = _
    rw [List.getElem?_append_left s2l]; exact g4
  · intro i dd E S' hi hI
    have hI : ∃ d rw' T, E = EL ns ((B1s P).length + 1) k (some (nestD N)) (some (.ref S2.length)) (some (.ref d)) rw' to nh pa ∧ S' = S4 ++ T ∧ S'[d]? = some (.lst (dueL N ((pts N.loops).take i))) ∧ lowS 0 T = true := hI
    clear e4
    obtain ⟨d, rw', T, hE, hS', q3, q4⟩ := hI
    obtain ⟨p, hpi, hdd⟩ := map_get hi
    rw [hE, hS', hdd]
    rw [hS'] at q3
    have hg : gN 6 (rowD p) (EL ns ((B1s P).length + 1) k (some (nestD N)) (some (.ref S2.length)) (some (.ref d)) rw' to nh pa) (S4 ++ T) = .ok (EL ns ((B1s P).length + 1) k (some (nestD N)) (some (.ref S2.length)) (some (.ref d)) (some (rowD p)) to nh pa) (S4 ++ T) := rfl
    rw [hg]
    refine Ok.ret ?_
    have hst := due_step h8 (ns := ns) (t := (B1s P).length + 1) (k := k) (ro := some (.ref S2.length)) (to := to) (nh := nh) (pa := pa) (p := p) q3 (by
      rw [hdl]
      have h1 : ((pts N.loops).take i).length ≤ 125 := by rw [List.length_take]; omega
      exact Nat.le_trans (Nat.mul_le_mul h1 hb2) (by decide)) (by omega)
    refine hst.mono ?_ (fun _ _ z => z.elim)
    rintro E2 S5 ⟨d', T2, rfl, rfl, p1, p2⟩
    exact ⟨d', _, T ++ T2, rfl, by simp, by rw [take_succ_get hpi]; exact p1, cl_app q4 p2⟩
  rintro E S5 ⟨d, rw', T, rfl, hS5, q3, q4⟩
  rw [List.length_map, List.take_length, due_eq gn] at q3
  have low5 : Low S5 := by rw [hS5]; exact low_app r4.low q4
  have r5 : Rdy (B1s P) S5 c1 := r4.grow low5 fun i hi => by rw [hS5, List.getElem?_append_left hi]
  have d5 := (List.getElem?_eq_some_iff.mp q3).1
  obtain ⟨n6, ds, S6, e6, g6, tr6, low6, n6l, f6⟩ := touched_ok (S := S5) (N := N) low5 h (fun i => Nat.le_trans (h.cnt i) (by decide))
  refine ws_seq (ws_asg (Ok.of (call_ok rfl rfl e6) (Ok.of (a := EL ns ((B1s P).length + 1) k (some (nestD N)) (some (.ref S2.length)) (some (.ref d)) rw' (some (.ref n6)) nh pa) rfl ?_)))
  have n6l2 := (List.getElem?_eq_some_iff.mp g6).1
  have r6 : Rdy (B1s P) S6 c1 := r5.grow low6 f6
  have d6 : S6[d]? = some (.lst ((List.range (cnt N)).map (instD N))) := by rw [f6 d d5]; exact q3
  have d6l := (List.getElem?_eq_some_iff.mp d6).1
  have e7 : iEn (aCons (mV 5) aNil) (EL ns ((B1s P).length + 1) k (some (nestD N)) (some (.ref S2.length)) (some (.ref d)) rw' (some (.ref n6)) nh pa) S6 = .ok ⟨pairsN ((List.range (cnt N)).map (instD N)), fun S => S[d]? = some (.lst ((List.range (cnt N)).map (instD N))), none⟩ S6 := by
    unfold iEn
    show aiEnum [.ref d] S6 = _
    unfold aiEnum
    simp only [d6]
  refine ws_seq (ws_for (items := pairsN ((List.range (cnt N)).map (instD N))) (gd := fun S => S[d]? = some (.lst ((List.range (cnt N)).map (instD N)))) (fun i E S' => ∃ nh' pa' T, E = EL ns ((B1s P).length + 1) k (some (nestD N)) (some (.ref S2.length)) (some (.ref d)) rw' (some (.ref n6)) nh' pa' ∧ S' = S6 ++ T ∧ lowS 0 T = true) e7 ⟨nh, pa, [], rfl, by simp, rfl⟩ ?_ ?_ ?_)
  · rintro i E S' ⟨_, _, T, _, rfl, _⟩
    show (S6 ++ T)[d]? = _
    rw [List.getElem?_append_left d6l]; exact d6
  · rintro i dd E S' hi ⟨nh', pa', T, rfl, rfl, hT⟩
    obtain ⟨x, hx, rfl⟩ := pairsN_get hi
    rw [List.getElem?_map] at hx
    have hi2 : i < cnt N := by
      by_cases hh : i < cnt N
      · exact hh
      · rw [List.getElem?_eq_none (by simp; omega)] at hx; cases hx
    rw [List.getElem?_range hi2] at hx
    cases hx
    refine Ok.of (a := EL ns ((B1s P).length + 1) k (some (nestD N)) (some (.ref S2.length)) (some (.ref d)) rw' (some (.ref n6)) (some (.int (i : Nat))) (some (instD N i))) (S := S6 ++ T) rfl ?_
    refine (inst_step (nh := nh') (pa := pa') h (low_app low6 hT) (by rw [List.getElem?_append_left n6l2]; exact g6) (tr6.mono fun j hj _ => by rw [List.getElem?_append_left hj]) hi2).mono ?_ (fun _ _ z => z.elim)
    rintro E2 S7 ⟨rfl, rfl⟩
    exact ⟨_, _, T ++ [.lst ((rdN N i).map cellD)], rfl, by simp, cl_app hT (cl_cons (o := .lst _) (lowDs_map (f := cellD) fun _ _ => cell_low) rfl)⟩
  rintro E S7 ⟨nh', pa', T, rfl, hS7, hT⟩
  have low7 : Low S7 := by rw [hS7]; exact low_app low6 hT
  have r7 : Rdy (B1s P) S7 c1 := r6.grow low7 fun i hi => by rw [hS7, List.getElem?_append_left hi]
  have d7 : S7[d]? = some (.lst ((List.range (cnt N)).map (instD N))) := by rw [hS7, List.getElem?_append_left d6l]; exact d6
  have len7 : fLen [.ref d] S7 = .ok (.int (cnt N : Nat)) S7 := by rw [len_lst d7, List.length_map, List.length_range]
  have w1 : ∀ S : Sto, m_is_whole [.int (-1), .int 0, .int ((cnt N : Nat) - 1)] S = .ok (.bl false) S := fun S => by rw [is_whole_ok]; rfl
  have w2 : ∀ S : Sto, m_is_whole [.int (-2), .int 0, .int ((cnt N : Nat) - 1)] S = .ok (.bl false) S := fun S => by rw [is_whole_ok]; rfl
  have w3 : ∀ S : Sto, m_is_whole [.int (cnt N : Nat), .int 0, .int ((cnt N : Nat) - 1)] S = .ok (.bl false) S := fun S => by
    rw [is_whole_ok, decide_eq_false (p := ((cnt N : Nat) : Int) ≤ (cnt N : Nat) - 1) (by omega), Bool.and_false]
  have e8 : ∀ nh pa, iA (mTup (aCons (m1 opNeg (mC (.int 1))) (aCons (mN fLen (aCons (mV 5) (aNil))) (aCons (mC .non) (aCons (mC (.bl true)) (aNil)))))) (EL ns ((B1s P).length + 1) k (some (nestD N)) (some (.ref S2.length)) (some (.ref d)) rw' (some (.ref n6)) nh pa) S7 = .ok ⟨[.int (-1), .int (cnt N : Nat), .non, .bl true], fun _ => True, none⟩ S7 := fun nh pa =>
    iA_ok (tup_ok (cons_ok rfl (cons_ok (n1_ok rfl len7) (cons_ok rfl (cons_ok rfl rfl)))) (by simp)) rfl
  refine ws_seq (ws_for (items := [.int (-1), .int (cnt N : Nat), .non, .bl true]) (gd := fun _ => True) (fun i E S' => ∃ nh' pa', E = EL ns ((B1s P).length + 1) k (some (nestD N)) (some (.ref S2.length)) (some (.ref d)) rw' (some (.ref n6)) nh' pa' ∧ S' = S7) (e8 _ _) ⟨_, _, rfl, rfl⟩ (fun _ _ _ _ => trivial) ?_ ?_)
  · rintro i dd E S' hi ⟨nh2, pa2, rfl, rfl⟩
    refine Ok.of (a := EL ns ((B1s P).length + 1) k (some (nestD N)) (some (.ref S2.length)) (some (.ref d)) rw' (some (.ref n6)) (some dd) pa2) (S := S') rfl ?_
    have hx : m_is_whole [dd, .int 0, .int ((cnt N : Nat) - 1)] S' = .ok (.bl false) S' := by
      match i, hi with
      | 0, hi => cases hi; exact w1 _
      | 1, hi => cases hi; exact w3 _
      | 2, hi => cases hi; exact is_whole_non
      | 3, hi => cases hi; exact is_whole_bl
    refine (out_step h r7 hx).mono ?_ (fun _ _ z => z.elim)
    rintro E2 S8 ⟨rfl, rfl⟩
    exact ⟨_, _, rfl, rfl⟩
  rintro E S8 ⟨nh2, pa2, rfl, rfl⟩
  refine ws_seq (ws_no (Ok.of (tB_ok (m2_ok (heard_at r7 (clx_exc (cons_ok rfl (cons_ok (n1_ok rfl len7) rfl)) rfl (reads_no low7 gn (w3 _)))) (tup_ok rfl (by decide)) ne_words)) ⟨rfl, ws_nil ?_⟩))
  refine ws_no (Ok.of (tB_ok (m2_ok (heard_at r7 (clx_exc (cons_ok rfl (cons_ok (m1_go rfl rfl) rfl)) rfl (writes_no low7 gn (w2 _)))) (tup_ok rfl (by decide)) ne_words)) ⟨rfl, ws_nil ?_⟩)
  exact ⟨⟨_, _, _, _, _, _, _, rfl⟩, c1, r7, hc1⟩
end
end K02
end M

namespace M
namespace K02
open PySem L2
theorem plain : Plain := by
  intro P ns _ _
  obtain ⟨S1, e1, r1, len1⟩ := begun_ok (B := B1s P) (fun m => rfl)
  suffices h : Ok (m_law P [.rl ns] (B1s P)) (fun d _ => d = .bl true) by
    obtain ⟨d, S, e, rfl⟩ := h.get
    exact ⟨S, e⟩
  unfold m_law b_law l_0 l_1 l_2
  generalize h2 : w_law_2 P = w2
  refine ok_mdef (ws_seq (ws_asg (Ok.of (call_ok rfl rfl e1) (Ok.of (a := EL ns ((B1s P).length + 1) none none none none none none none none) rfl ?_))))
  refine ws_seq (ws_for (items := rangeD 0 ((2 : Nat) : Int)) (gd := fun _ => True) (fun i E S' => (∃ k ne ro du rw to nh pa, E = EL ns ((B1s P).length + 1) k ne ro du rw to nh pa) ∧ ∃ c, Rdy (B1s P) S' c ∧ c ≤ 600 * i)
    (r1_at (t := aCons (mC (.int 2)) aNil) (n := 2) rfl (by decide)) ⟨⟨_, _, _, _, _, _, _, _, rfl⟩, 0, r1, by omega⟩ (fun _ _ _ _ => trivial) ?_ ?_)
  · rintro i dd E S' hi ⟨⟨k, ne, ro, du, rw, to, nh, pa, rfl⟩, c, hr, hc⟩
    obtain ⟨hi3, rfl⟩ := range_get hi
    refine Ok.of (a := EL ns ((B1s P).length + 1) (some (.int (i : Nat))) ne ro du rw to nh pa) (S := S') rfl ((turn_step h2 hr (by omega)).mono ?_ (fun _ _ h => h.elim))
    rintro E S ⟨⟨ne', ro', du', rw', to', nh', pa', rfl⟩, c', r', hc'⟩
    exact ⟨⟨_, _, _, _, _, _, _, _, rfl⟩, c', r', by omega⟩
  · rintro E S ⟨⟨k, ne, ro, du, rw, to, nh, pa, rfl⟩, c, r, _⟩
    exact ws_ret (Ok.of (a := .bl true) (S := S) rfl gc_all)
end K02
end M

open PySem PySem.W PySem.Calls PyProof.Rows
theorem PySem.Challenge.cw_bankloops_k02_instances_holds : PySem.Challenge.rw_bankloops_k02_instances.Holds := by
  w_on; o_law
  refine HandSHeadRun.head_any (r := OpenLaw.row PySem.Challenge.rw_bankloops_k02_instances) (q := view (OpenLaw.row PySem.Challenge.rw_bankloops_k02_instances).prog [41]) (H := M.K02.hk) (ob := M.K02.ob) (M := 6000) (loose := M.K02.loose) (d := HandSHeadRun.topDef (OpenLaw.row PySem.Challenge.rw_bankloops_k02_instances).prog 41) (kwd := []) M.K02.ob_eq
    (by kernel_rfl) (fun s => by kernel_rfl) M.K02.run (by kernel_rfl) (by kernel_rfl) (by kernel_rfl) (by rfl) (by first | assumption | decide +kernel) (by decide +kernel) ⟨rfl, rfl, rfl, rfl, rfl, by decide +kernel⟩ ?hw ?hc
  case hw => w_witness2
  case hc =>
    refine LamX.walk_ofTsE (l := PySem.Challenge.rw_bankloops_k02_instances) (n := 63) (k := 14) (x := "script") (CX := fun _ => L2.CX0) rfl (by decide) (by kernel_rfl) ⟨rfl, by decide, by decide⟩ ?F (fun _ _ _ _ _ z => z)
    intro w mg fa h Y G hmg0
    obtain ⟨K, KX, c⟩ := Y
    have hmg : mg ("law" : PySem.Str) = some (.ref fa) := by
      have e : (HandSHeadRun.topDef (OpenLaw.row PySem.Challenge.rw_bankloops_k02_instances).prog 41).name = ("law" : PySem.Str) := by kernel_rfl
      rw [← e]
      exact hmg0
    exact ⟨K, KX, M.K02.atM M.K02.plain KX G hmg c⟩
