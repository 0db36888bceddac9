import PyProof.Rows.All
import Wide.All
import OpenK.AllK
import Wide.FinOn
import HandS.ForMost
import HandS.DictComp
import HandS.Walk
import HandS.Lambda
import HandS.HeadHook1
import KE.KDictKeyed
import KE.KeyNested
import HandS.TupAny
import HandS.Flow
import HandS.Iter
import KE.GoesEnum
import HandS.SortKw
import KE.KMinKey
import HandS.Words
import HandS.Defaults
import HandS.HeadHook4
import HandS.HeadWalk
import HandS.Head2
import HandS.Style
import HandS.Zip
import HandS.SetFor
import HandS.Strs
import KE.KDictWalk
import HandS.SortInts
import HandS.ExcValue
import HandS.ExcOwn
import KE.KDictDisplayH
import HandS.ExcIs
import KE.DataMinMax
import KE.SortData
import PySem.Challenge.RW_bankloops_k33_rules
set_option Elab.async false
set_option linter.all false
set_option maxRecDepth 100000
set_option maxHeartbeats 4000000
set_option autoImplicit false
/-! A layer of data over HandS: each piece of the text is read as a plain function of slots and store. -/
namespace M
open PySem L2

/-- data: tuples are plain, lists and dicts stand in the store -/
inductive D where
  | non | bl (b : Bool) | int (i : Int) | str (x : Str) | tup (ds : List D) | ref (n : Nat) | raw (v : V) | rl (ns : List Int)
/-- objects: lists, dicts by ints and texts (fd: while a loop walks it), tables of code, dicts by tuples (fn: while a loop walks it), caught exceptions -/
inductive O where
  | lst (ds : List D) | dk (kvs : List (Key × D)) | fd (kvs : List (Key × D)) | tb (P : Addr) (q : Str)
  | dn (kvs : List (NestedKey × D)) | fn (kvs : List (NestedKey × D)) | ex (c : Str) (fs : List (Str × D))
/-- what is fixed for a run -/
structure KX where
  K : PySem.W.Frag
  P : Program
  w : World
instance : CoeHead KX PySem.W.Frag := ⟨KX.K⟩
abbrev gX (X : Cx) : KX := ⟨X.K, X.prog, X.w⟩
mutual
/-- a key as data -/
def nkD : NestedKey → D
  | .none => .non
  | .num i => .int i
  | .text x => .str x
  | .tup ks => .tup (nkDs ks)
def nkDs : List NestedKey → List D
  | [] => []
  | k :: ks => nkD k :: nkDs ks
end
/-- a dict whose keys are tuples: keys, where they stand, values -/
def DictN (P : Program) (w : World) (a : Addr) (xs : List (NestedKey × Addr × V)) : HO := .ext fun h => xs.length ≤ sizeLine ∧ (a == sysModules) = false ∧ (∀ x ∈ xs, x.1.depth ≤ 8) ∧ (xs.map (·.1)).Nodup ∧
  ∃ (ys : List (NestedKey × Addr × Value)) (o : Obj) (es : Array DictEntry) (ep : Nat), Paired (fun x y => x.1 = y.1 ∧ x.2.1 = y.2.1 ∧ RelV x.2.2 y.2.2) xs ys ∧ h.get? a = some o ∧ o.ExactDict ∧ o.data = .dict es ep ∧ es.toList = ys.map (entryOfKey (nestedKind P w))
/-- an exception that was caught -/
def ExC (cls : Value) (d : Option Addr) (a : Addr) : HO := .ext fun h => ∃ (oe : Obj) (vs : Array Value), h.get? a = some oe ∧ Zc cls d oe ∧ oe.data = .fields vs
abbrev Sto := List O
abbrev En := List (Option D)
inductive Rs (α : Type) where
  | ok (a : α) (S : Sto) | exc (c : Str) (fs : List (Str × D)) (S : Sto) | bad
def Rs.bind {α β : Type} (r : Rs α) (f : α → Sto → Rs β) : Rs β := match r with
  | .ok a S => f a S
  | .exc c fs S => .exc c fs S
  | .bad => .bad
@[simp] theorem bind_ok {α β : Type} (a : α) (S : Sto) (f : α → Sto → Rs β) : (Rs.ok a S).bind f = f a S := rfl
@[simp] theorem bind_exc {α β : Type} (c : Str) (fs : List (Str × D)) (S : Sto) (f : α → Sto → Rs β) : (Rs.exc c fs S).bind f = .exc c fs S := rfl
@[simp] theorem bind_bad {α β : Type} (f : α → Sto → Rs β) : (Rs.bad).bind f = .bad := rfl

/-! ### how data stands in the abstract heap -/
/-- a list that nothing changes: the script -/
def RdL (K : PySem.W.Frag) (H : Hp) (a : Addr) (xs : List V) : Prop := (∃ o, H a = some (.frz o (.lst xs))) ∨ SqL K (fun _ => none) a xs
theorem RdL.sq {K : PySem.W.Frag} {H : Hp} {a : Addr} {xs : List V} (h : RdL K H a xs) : SqL K H a xs := by
  rcases h with ⟨o, h⟩ | (h | ⟨o, h⟩) | h
  · exact .inl (.inr ⟨o, h⟩)
  · cases h
  · cases h
  · exact .inr h
mutual
def RD (K : KX) (p : List Addr) (H : Hp) : D → V → Prop
  | .non, v => v = .non
  | .bl b, v => v = .bl b
  | .int i, v => v = .int i
  | .str x, v => v = .str x
  | .tup ds, v => ∃ a vs, v = .ref a ∧ SqT K H a vs ∧ RDs K p H ds vs
  | .ref n, v => ∃ a, p[n]? = some a ∧ v = .ref a
  | .raw u, v => v = u
  | .rl ns, v => ∃ a, v = .ref a ∧ RdL K H a (ns.map V.int)
def RDs (K : KX) (p : List Addr) (H : Hp) : List D → List V → Prop
  | [], vs => vs = []
  | d :: ds, vs => ∃ v r, vs = v :: r ∧ RD K p H d v ∧ RDs K p H ds r
end
def RKs (K : KX) (p : List Addr) (H : Hp) (kvs : List (Key × D)) (ws : List (Key × V)) : Prop :=
  kvs.map (·.1) = ws.map (·.1) ∧ RDs K p H (kvs.map (·.2)) (ws.map (·.2))
def RNs (K : KX) (p : List Addr) (H : Hp) (kvs : List (NestedKey × D)) (xs : List (NestedKey × Addr × V)) : Prop :=
  kvs.map (·.1) = xs.map (·.1) ∧ RDs K p H (kvs.map (·.2)) (xs.map (·.2.2)) ∧ RDs K p H (kvs.map fun kv => nkD kv.1) (xs.map fun x => .ref x.2.1)
def RO (K : KX) (p : List Addr) (H : Hp) (a : Addr) : O → HO → Prop
  | .lst ds, h => ∃ vs, h = .lst vs ∧ RDs K p H ds vs
  | .dk kvs, h => ∃ ws, h = .dK ws ∧ RKs K p H kvs ws
  | .fd kvs, h => ∃ ob ws, h = .frz ob (.dK ws) ∧ RKs K p H kvs ws
  | .dn kvs, h => ∃ xs, h = DictN K.P K.w a xs ∧ RNs K p H kvs xs
  | .fn kvs, h => ∃ ob xs, h = .frz ob (DictN K.P K.w a xs) ∧ RNs K p H kvs xs
  | .ex c fs, h => ∃ d, h = ExC (.ref (He.ga K.K c)) d a ∧ ((fs = [] ∧ d = none) ∨ fs ≠ [] ∧ ∃ dd ws, d = some dd ∧ H dd = some (.xd ws) ∧ fs.map (·.1) = ws.map (·.1) ∧ RDs K p H (fs.map (·.2)) (ws.map (·.2)))
  | .tb P q, h => a = P ∧ ∃ ps, h = .tbl ps ∧ TriplesOk ps.toList ∧ ∀ (pos : Pos) (cv : Value), codeAmong pos ps.toList = some cv → ∃ c, cv = .ref c ∧ H c = some (LamX.CodeO c q)
/-- tuples, lists that nothing changes, code objects stay -/
structure Keep (K : KX) (H H' : Hp) : Prop where
  tup : ∀ a xs, SqT K H a xs → SqT K H' a xs
  rdl : ∀ a xs, RdL K H a xs → RdL K H' a xs
  cod : ∀ c q, H c = some (LamX.CodeO c q) → H' c = some (LamX.CodeO c q)
  xd : ∀ a fs, H a = some (.xd fs) → H' a = some (.xd fs)
/-- what may be written over: lists, dicts -/
def openO : HO → Bool
  | .lst _ => true
  | .dK _ => true
  | .dT _ => true
  | _ => false
/-- .. a lock's end, too; a table -/
def safeO : HO → Bool
  | .lst _ => true
  | .dK _ => true
  | .dT _ => true
  | .frz _ (.dK _) => true
  | .frz _ (.dT _) => true
  | .tbl _ => true
  | _ => false
theorem openO.safe {o : HO} (h : openO o = true) : safeO o = true := by
  cases o <;> first | rfl | cases h
/-- .. or a dict by tuples -/
def Open (o : HO) : Prop := openO o = true ∨ ∃ P w a xs, o = DictN P w a xs
def Safe (o : HO) : Prop := safeO o = true ∨ (∃ P w a xs, o = DictN P w a xs) ∨ ∃ ob P w a xs, o = .frz ob (DictN P w a xs)
theorem Open.safe {o : HO} (h : Open o) : Safe o := h.elim (fun h => .inl (openO.safe h)) fun h => .inr (.inl h)
theorem Open.frz {o : HO} (h : Open o) {ob : Obj} {u : HO} : o ≠ .frz ob u := by
  rintro rfl
  rcases h with h | ⟨P, w, a, xs, h⟩
  · cases h
  · cases h
/-- a code object is no dict -/
theorem code_dict {c : Addr} {q : Str} {P : Program} {w : World} {a : Addr} {xs : List (NestedKey × Addr × V)} (e : LamX.CodeO c q = DictN P w a xs) : False := by
  have e' := HO.ext.inj e
  have h0 : ∃ h : Heap, (∃ (oc : Obj) (vs : Array Value) (t : Tok), h.get? c = some oc ∧ oc.data = .fields vs ∧ vs[1]? = some (.str q t)) ∧ ∀ b o, h.get? b = some o → o.data = .fields #[.none, .str q 0] := by
    refine ⟨{ objs := Array.replicate (c + 1) { cls := .none, data := .fields #[.none, .str q 0] } }, ⟨{ cls := .none, data := .fields #[.none, .str q 0] }, #[.none, .str q 0], 0, ?_, rfl, rfl⟩, fun b o hb => ?_⟩
    · simp [Heap.get?]
    · unfold Heap.get? at hb
      by_cases hlt : b < c + 1
      · simp [hlt] at hb
        rw [← hb]
      · simp [hlt] at hb
  obtain ⟨h, h1, h2⟩ := h0
  have h3 := (congrFun e' h).mp h1
  obtain ⟨_, _, _, _, ys, o, es, ep, _, g1, _, g2, _⟩ := h3
  rw [h2 _ _ g1] at g2
  cases g2
structure RS (K : KX) (p : List Addr) (S : Sto) (H : Hp) : Prop where
  len : p.length = S.length
  nd : p.Nodup
  get : ∀ (n : Nat) a o, p[n]? = some a → S[n]? = some o → ∃ h, H a = some h ∧ RO K p H a o h
structure RE (K : KX) (p : List Addr) (H : Hp) (E : En) (σ : St) : Prop where
  len : E.length = σ.length
  get : ∀ (i : Nat) d, E[i]? = some (some d) → ∃ v, σ[i]? = some (some v) ∧ RD K p H d v
/-- the addresses so far come first -/
def Pre (p q : List Addr) : Prop := ∃ r, q = p ++ r
theorem Pre.refl (p : List Addr) : Pre p p := ⟨[], by simp⟩
theorem Pre.trans {p q r : List Addr} (a : Pre p q) (b : Pre q r) : Pre p r := by
  obtain ⟨x, rfl⟩ := a
  obtain ⟨y, rfl⟩ := b
  exact ⟨x ++ y, by simp⟩
theorem Pre.get {p q : List Addr} (a : Pre p q) {n : Nat} {x : Addr} (h : p[n]? = some x) : q[n]? = some x := by
  obtain ⟨r, rfl⟩ := a
  rw [List.getElem?_append_left (List.getElem?_eq_some_iff.mp h).1]
  exact h
theorem Pre.add (p : List Addr) (x : Addr) : Pre p (p ++ [x]) := ⟨[x], rfl⟩

section
variable {K : KX} {p q : List Addr} {H H' H2 : Hp} {S : Sto}
theorem Keep.refl (H : Hp) : Keep K H H := ⟨fun _ _ h => h, fun _ _ h => h, fun _ _ h => h, fun _ _ h => h⟩
theorem Keep.trans (a : Keep K H H') (b : Keep K H' H2) : Keep K H H2 := ⟨fun c xs h => b.tup c xs (a.tup c xs h), fun c xs h => b.rdl c xs (a.rdl c xs h), fun c q h => b.cod c q (a.cod c q h), fun c fs h => b.xd c fs (a.xd c fs h)⟩
/-- two heaps that agree at tuples, locked lists, code objects -/
theorem Keep.of (h : ∀ b o, H b = some o → ¬ Safe o → H' b = some o) : Keep K H H' where
  tup := fun b xs q => by
    rcases q with (e | ⟨ob, e⟩) | e
    · exact .inl (.inl (h _ _ e (by rintro (z | ⟨_, _, _, _, z⟩ | ⟨_, _, _, _, _, z⟩) <;> cases z)))
    · exact .inl (.inr ⟨ob, h _ _ e (by rintro (z | ⟨_, _, _, _, z⟩ | ⟨_, _, _, _, _, z⟩) <;> cases z)⟩)
    · exact .inr e
  rdl := fun b xs q => by
    rcases q with ⟨ob, e⟩ | e
    · exact .inl ⟨ob, h _ _ e (by rintro (z | ⟨_, _, _, _, z⟩ | ⟨_, _, _, _, _, z⟩) <;> cases z)⟩
    · exact .inr e
  cod := fun c q e => h _ _ e (by
    rintro (z | ⟨_, _, _, _, z⟩ | ⟨_, _, _, _, _, z⟩)
    · cases z
    · exact code_dict z
    · cases z)
  xd := fun b fs e => h _ _ e (by rintro (z | ⟨_, _, _, _, z⟩ | ⟨_, _, _, _, _, z⟩) <;> cases z)
theorem Keep.new {a : Addr} {o : HO} (h : H a = none) : Keep K H (upd H a o) := Keep.of fun b ob e _ => by
  rw [upd_ne (ne_of_none e h)]; exact e
theorem Keep.set {a : Addr} {o o' : HO} (h : H a = some o) (hn : Safe o) : Keep K H (upd H a o') := Keep.of fun b ob e hs => by
  have : b ≠ a := fun z => by subst z; rw [h] at e; cases e; exact hs hn
  rw [upd_ne this]; exact e
mutual
theorem RD.mono (hp : Pre p q) (hk : Keep K H H') : ∀ {d : D} {v : V}, RD K p H d v → RD K q H' d v
  | .non, _, h => h
  | .bl _, _, h => h
  | .int _, _, h => h
  | .str _, _, h => h
  | .raw _, _, h => h
  | .rl ns, v, h => by
    obtain ⟨a, rfl, e⟩ := h
    exact ⟨a, rfl, hk.rdl _ _ e⟩
  | .ref n, v, h => by
    obtain ⟨a, e, rfl⟩ := h
    exact ⟨a, hp.get e, rfl⟩
  | .tup ds, v, h => by
    obtain ⟨a, vs, rfl, e, r⟩ := h
    exact ⟨a, vs, rfl, hk.tup _ _ e, RDs.mono hp hk r⟩
theorem RDs.mono (hp : Pre p q) (hk : Keep K H H') : ∀ {ds : List D} {vs : List V}, RDs K p H ds vs → RDs K q H' ds vs
  | [], _, h => h
  | d :: ds, vs, h => by
    obtain ⟨v, r, rfl, h1, h2⟩ := h
    exact ⟨v, r, rfl, RD.mono hp hk h1, RDs.mono hp hk h2⟩
end
theorem RDs.length : ∀ {ds : List D} {vs : List V}, RDs K p H ds vs → ds.length = vs.length
  | [], _, h => by cases h; rfl
  | d :: ds, vs, h => by
    obtain ⟨v, r, rfl, _, h2⟩ := h
    simp [RDs.length h2]
theorem RDs.get : ∀ {ds : List D} {vs : List V} {i : Nat} {d : D}, RDs K p H ds vs → ds[i]? = some d → ∃ v, vs[i]? = some v ∧ RD K p H d v
  | [], _, _, _, _, e => by simp at e
  | d :: ds, vs, 0, d', h, e => by
    obtain ⟨v, r, rfl, h1, _⟩ := h
    simp at e; subst e
    exact ⟨v, rfl, h1⟩
  | d :: ds, vs, i + 1, d', h, e => by
    obtain ⟨v, r, rfl, _, h2⟩ := h
    obtain ⟨v', e', h'⟩ := RDs.get (i := i) h2 (by simpa using e)
    exact ⟨v', by simpa using e', h'⟩
theorem RDs.get' {ds : List D} {vs : List V} {i : Nat} {v : V} (h : RDs K p H ds vs) (e : vs[i]? = some v) : ∃ d, ds[i]? = some d ∧ RD K p H d v := by
  have hi : i < ds.length := by rw [h.length]; exact (List.getElem?_eq_some_iff.mp e).1
  obtain ⟨v', e', r⟩ := h.get (i := i) (d := ds[i]) (by simp [hi])
  rw [e] at e'; cases e'
  exact ⟨_, by simp [hi], r⟩
theorem RDs.append : ∀ {ds es : List D} {vs us : List V}, RDs K p H ds vs → RDs K p H es us → RDs K p H (ds ++ es) (vs ++ us)
  | [], _, _, _, h, h' => by cases h; exact h'
  | d :: ds, es, vs, us, h, h' => by
    obtain ⟨v, r, rfl, h1, h2⟩ := h
    exact ⟨v, r ++ us, rfl, h1, RDs.append h2 h'⟩
theorem RDs.one {d : D} {v : V} (h : RD K p H d v) : RDs K p H [d] [v] := ⟨v, [], rfl, h, rfl⟩
theorem RDs.take : ∀ {ds : List D} {vs : List V} (n : Nat), RDs K p H ds vs → RDs K p H (ds.take n) (vs.take n)
  | _, _, 0, _ => by simp; rfl
  | [], _, n + 1, h => by cases h; rfl
  | d :: ds, vs, n + 1, h => by
    obtain ⟨v, r, rfl, h1, h2⟩ := h
    exact ⟨v, r.take n, rfl, h1, RDs.take n h2⟩
theorem RDs.drop : ∀ {ds : List D} {vs : List V} (n : Nat), RDs K p H ds vs → RDs K p H (ds.drop n) (vs.drop n)
  | _, _, 0, h => by simpa using h
  | [], _, n + 1, h => by cases h; rfl
  | d :: ds, vs, n + 1, h => by
    obtain ⟨v, r, rfl, h1, h2⟩ := h
    simpa using RDs.drop n h2
theorem RDs.set : ∀ {ds : List D} {vs : List V} {d : D} {v : V} (i : Nat), RDs K p H ds vs → RD K p H d v → RDs K p H (ds.set i d) (vs.set i v)
  | [], _, _, _, _, h, _ => by cases h; rfl
  | d0 :: ds, vs, d, v, 0, h, r => by
    obtain ⟨v0, r0, rfl, h1, h2⟩ := h
    exact ⟨v, r0, rfl, r, h2⟩
  | d0 :: ds, vs, d, v, i + 1, h, r => by
    obtain ⟨v0, r0, rfl, h1, h2⟩ := h
    exact ⟨v0, r0.set i v, rfl, h1, RDs.set i h2 r⟩
theorem RDs.reverse : ∀ {ds : List D} {vs : List V}, RDs K p H ds vs → RDs K p H ds.reverse vs.reverse
  | [], _, h => by cases h; rfl
  | d :: ds, vs, h => by
    obtain ⟨v, r, rfl, h1, h2⟩ := h
    simp only [List.reverse_cons]
    exact RDs.append (RDs.reverse h2) (RDs.one h1)
theorem RKs.mono {kvs : List (Key × D)} {ws : List (Key × V)} (hp : Pre p q) (hk : Keep K H H') (h : RKs K p H kvs ws) : RKs K q H' kvs ws := ⟨h.1, h.2.mono hp hk⟩
theorem RNs.mono {kvs : List (NestedKey × D)} {xs : List (NestedKey × Addr × V)} (hp : Pre p q) (hk : Keep K H H') (h : RNs K p H kvs xs) : RNs K q H' kvs xs := ⟨h.1, h.2.1.mono hp hk, h.2.2.mono hp hk⟩
theorem RO.mono (hp : Pre p q) (hk : Keep K H H') {a : Addr} : ∀ {o : O} {h : HO}, RO K p H a o h → RO K q H' a o h
  | .lst ds, h, r => by
    obtain ⟨vs, rfl, r⟩ := r
    exact ⟨vs, rfl, r.mono hp hk⟩
  | .dk kvs, h, r => by
    obtain ⟨ws, rfl, r⟩ := r
    exact ⟨ws, rfl, r.mono hp hk⟩
  | .fd kvs, h, r => by
    obtain ⟨ob, ws, rfl, r⟩ := r
    exact ⟨ob, ws, rfl, r.mono hp hk⟩
  | .dn kvs, h, r => by
    obtain ⟨ws, rfl, r⟩ := r
    exact ⟨ws, rfl, r.mono hp hk⟩
  | .fn kvs, h, r => by
    obtain ⟨ob, ws, rfl, r⟩ := r
    exact ⟨ob, ws, rfl, r.mono hp hk⟩
  | .ex c fs, h, r => by
    obtain ⟨d, rfl, r⟩ := r
    refine ⟨d, rfl, r.imp id ?_⟩
    rintro ⟨e0, dd, ws, e1, e2, e3, e4⟩
    exact ⟨e0, dd, ws, e1, hk.xd _ _ e2, e3, e4.mono hp hk⟩
  | .tb P x, h, r => by
    obtain ⟨e, ps, rfl, h1, h2⟩ := r
    exact ⟨e, ps, rfl, h1, fun pos cv hc => let ⟨c, e1, e2⟩ := h2 pos cv hc; ⟨c, e1, hk.cod _ _ e2⟩⟩
/-- an object that is never changed -/
def O.isEx : O → Bool
  | .ex _ _ => true
  | _ => false
theorem RO.safe {a : Addr} : ∀ {o : O} {h : HO}, o.isEx = false → RO K p H a o h → Safe h
  | .lst ds, h, _, r => by obtain ⟨vs, rfl, r⟩ := r; exact .inl rfl
  | .dk kvs, h, _, r => by obtain ⟨ws, rfl, r⟩ := r; exact .inl rfl
  | .fd kvs, h, _, r => by obtain ⟨ob, ws, rfl, r⟩ := r; exact .inl rfl
  | .dn kvs, h, _, r => by obtain ⟨ws, rfl, r⟩ := r; exact .inr (.inl ⟨_, _, _, _, rfl⟩)
  | .fn kvs, h, _, r => by obtain ⟨ob, ws, rfl, r⟩ := r; exact .inr (.inr ⟨_, _, _, _, _, rfl⟩)
  | .ex c fs, h, e, r => by cases e
  | .tb P x, h, _, r => by obtain ⟨e, ps, rfl, _⟩ := r; exact .inl rfl
theorem RE.mono {E : En} {σ : St} (hp : Pre p q) (hk : Keep K H H') (h : RE K p H E σ) : RE K q H' E σ :=
  ⟨h.len, fun i d e => let ⟨v, e', r⟩ := h.get i d e; ⟨v, e', r.mono hp hk⟩⟩
theorem RE.set {E : En} {σ : St} {i : Nat} {d : D} {v : V} (h : RE K p H E σ) (r : RD K p H d v) : RE K p H (E.set i (some d)) (σ.set i (some v)) := by
  refine ⟨by simpa using h.len, fun j d' e => ?_⟩
  by_cases hj : i = j
  · subst hj
    rw [List.getElem?_set_self'] at e
    cases hq : E[i]? with
    | none => rw [hq] at e; cases e
    | some x =>
      rw [hq] at e
      have e : some d = some d' := Option.some.inj e
      cases e
      have hi : i < σ.length := by rw [← h.len]; exact (List.getElem?_eq_some_iff.mp hq).1
      exact ⟨v, by rw [List.getElem?_set_self hi], r⟩
  · rw [List.getElem?_set_ne hj] at e ⊢
    exact h.get j d' e
/-- some slots forgotten -/
theorem RE.weak {E E' : En} {σ : St} (h : RE K p H E σ) (hl : E'.length = E.length) (hw : ∀ (i : Nat) d, E'[i]? = some (some d) → E[i]? = some (some d)) : RE K p H E' σ :=
  ⟨hl.trans h.len, fun i d e => h.get i d (hw i d e)⟩
theorem RS.frame (h : RS K p S H) {a : Addr} {o : HO} (hn : H a = none) : RS K p S (upd H a o) :=
  ⟨h.len, h.nd, fun n b ob e1 e2 => by
    obtain ⟨x, e, r⟩ := h.get n b ob e1 e2
    exact ⟨x, by rw [upd_ne (ne_of_none e hn)]; exact e, r.mono (Pre.refl _) (Keep.new hn)⟩⟩
theorem RS.lt (h : RS K p S H) {n : Nat} {o : O} (e : S[n]? = some o) : ∃ a, p[n]? = some a := by
  have hn : n < p.length := by rw [h.len]; exact (List.getElem?_eq_some_iff.mp e).1
  exact ⟨p[n], by simp [hn]⟩
theorem RS.at' (h : RS K p S H) {n : Nat} {a : Addr} {o : O} (ea : p[n]? = some a) (e : S[n]? = some o) : ∃ x, H a = some x ∧ RO K p H a o x := h.get n a o ea e
/-- a new object of the store -/
theorem RS.alloc (h : RS K p S H) {a : Addr} {o : O} {x : HO} (hn : H a = none) (r : RO K p H a o x) : RS K (p ++ [a]) (S ++ [o]) (upd H a x) := by
  have fresh : a ∉ p := fun hm => by
    obtain ⟨n, hn', e⟩ := List.getElem_of_mem hm
    have e1 : p[n]? = some a := by simp [hn', e]
    have : n < S.length := by rw [← h.len]; exact hn'
    obtain ⟨y, e2, _⟩ := h.get n a S[n] e1 (by simp [this])
    rw [hn] at e2; cases e2
  refine ⟨by simp [h.len], ?_, fun n b ob e1 e2 => ?_⟩
  · rw [List.nodup_append]
    exact ⟨h.nd, by simp, fun x hx y hy z => fresh (by simp at hy; subst hy; subst z; exact hx)⟩
  · by_cases hl : n < p.length
    · rw [List.getElem?_append_left hl] at e1
      rw [List.getElem?_append_left (by rw [← h.len]; exact hl)] at e2
      obtain ⟨y, e, r'⟩ := h.get n b ob e1 e2
      exact ⟨y, by rw [upd_ne (ne_of_none e hn)]; exact e, r'.mono (Pre.add _ _) (Keep.new hn)⟩
    · have hl2 : n = p.length := by
        have := (List.getElem?_eq_some_iff.mp e1).1
        simp at this; omega
      subst hl2
      rw [List.getElem?_append_right (Nat.le_refl _)] at e1
      simp at e1; subst e1
      rw [h.len, List.getElem?_append_right (Nat.le_refl _)] at e2
      simp at e2; subst e2
      exact ⟨x, upd_same, r.mono (Pre.add _ _) (Keep.new hn)⟩
/-- an object of the store changed -/
theorem RS.set (h : RS K p S H) {n : Nat} {a : Addr} {o o' : O} {x x' : HO} (ea : p[n]? = some a) (e : S[n]? = some o) (ex : H a = some x) (hx : Safe x) (r : RO K p H a o' x') : RS K p (S.set n o') (upd H a x') := by
  refine ⟨by simp [h.len], h.nd, fun m b ob e1 e2 => ?_⟩
  by_cases hm : n = m
  · subst hm
    rw [ea] at e1; cases e1
    rw [List.getElem?_set_self (List.getElem?_eq_some_iff.mp e).1] at e2
    cases e2
    exact ⟨x', upd_same, r.mono (Pre.refl _) (Keep.set ex hx)⟩
  · rw [List.getElem?_set_ne hm] at e2
    obtain ⟨y, ey, r'⟩ := h.get m b ob e1 e2
    have hb : b ≠ a := fun z => by
      subst z
      obtain ⟨h1, q1⟩ := List.getElem?_eq_some_iff.mp ea
      obtain ⟨h2, q2⟩ := List.getElem?_eq_some_iff.mp e1
      exact hm ((List.getElem_inj h.nd).mp (q1.trans q2.symm))
    exact ⟨y, by rw [upd_ne hb]; exact ey, r'.mono (Pre.refl _) (Keep.set ex hx)⟩
end

/-- the addresses so far come first, tuples stay, what is not of the store stays -/
structure Ext (K : KX) (p : List Addr) (H : Hp) (q : List Addr) (H' : Hp) : Prop where
  pre : Pre p q
  tup : Keep K H H'
  frm : ∀ a o, a ∉ p → H a = some o → (∀ ps, o ≠ .tbl ps) → a ∉ q ∧ H' a = some o
  frz : ∀ a o u, H a = some (.frz o u) → H' a = some (.frz o u)
section
variable {K : KX} {p q r : List Addr} {H H' H2 : Hp} {S : Sto}
theorem Ext.refl (p : List Addr) (H : Hp) : Ext K p H p H := ⟨Pre.refl _, Keep.refl _, fun _ _ a b _ => ⟨a, b⟩, fun _ _ _ h => h⟩
theorem Ext.trans (a : Ext K p H q H') (b : Ext K q H' r H2) : Ext K p H r H2 :=
  ⟨a.pre.trans b.pre, a.tup.trans b.tup, fun c o h1 h2 h3 => let ⟨x, y⟩ := a.frm c o h1 h2 h3; b.frm c o x y h3, fun c o u h => b.frz c o u (a.frz c o u h)⟩
theorem Ext.new {a : Addr} {o : HO} (h : H a = none) : Ext K p H p (upd H a o) :=
  ⟨Pre.refl _, Keep.new h, fun b ob h1 h2 _ => ⟨h1, by rw [upd_ne (ne_of_none h2 h)]; exact h2⟩, fun b ob u h2 => by rw [upd_ne (ne_of_none h2 h)]; exact h2⟩
theorem Ext.alloc {a : Addr} {o : HO} (h : H a = none) : Ext K p H (p ++ [a]) (upd H a o) :=
  ⟨Pre.add _ _, Keep.new h, fun b ob h1 h2 _ => ⟨fun z => by
    rcases List.mem_append.mp z with z | z
    · exact h1 z
    · exact ne_of_none h2 h (by simpa using z), by rw [upd_ne (ne_of_none h2 h)]; exact h2⟩, fun b ob u h2 => by rw [upd_ne (ne_of_none h2 h)]; exact h2⟩
/-- an object of the store that is not locked is written -/
theorem Ext.set {a : Addr} {o o' : HO} (ha : a ∈ p) (h : H a = some o) (hn : Safe o) (hf : ∀ ob u, o ≠ .frz ob u) : Ext K p H p (upd H a o') :=
  ⟨Pre.refl _, Keep.set h hn, fun b ob h1 h2 _ => ⟨h1, by rw [upd_ne (fun z => h1 (by rw [z]; exact ha))]; exact h2⟩, fun b ob u h2 => by
    rw [upd_ne (fun z => by subst z; rw [h] at h2; cases h2; exact hf _ _ rfl)]; exact h2⟩
/-- what was locked since (p, H) is open again -/
theorem Ext.unlock {a : Addr} {o : HO} {ob : Obj} {u : HO} (x : Ext K p H q H') (ha : a ∈ p) (h : H a = some o) (hn : Open o) (h' : H' a = some (.frz ob u)) (hu : Safe (.frz ob u)) : Ext K p H q (upd H' a u) :=
  ⟨x.pre, x.tup.trans (Keep.set h' hu), fun b ob h1 h2 h3 => ⟨(x.frm b ob h1 h2 h3).1, by rw [upd_ne (fun z => h1 (by rw [z]; exact ha))]; exact (x.frm b ob h1 h2 h3).2⟩, fun b ob u h2 => by
    rw [upd_ne (fun z => by subst z; rw [h] at h2; cases h2; exact hn.frz rfl)]; exact x.frz _ _ _ h2⟩
end

/-! ### what is wanted behind a piece -/
abbrev XW := Str → List (Str × D) → Sto → List Addr → Hp → Prop
def post {α : Type} (K : KX) (W : XW) (p : List Addr) (H : Hp) (r : Rs α) (k : α → Sto → List Addr → Hp → Prop) : Prop := match r with
  | .ok a S' => ∀ p' H', Ext K p H p' H' → RS K p' S' H' → k a S' p' H'
  | .exc c fs S' => ∀ p' H', Ext K p H p' H' → RS K p' S' H' → W c fs S' p' H'
  | .bad => False
section
variable {K : KX} {W : XW} {p p' : List Addr} {H H' : Hp} {α β : Type}
theorem post_base {r : Rs α} {k : α → Sto → List Addr → Hp → Prop} (hx : Ext K p H p' H') (h : post K W p H r k) : post K W p' H' r k := by
  cases r with
  | ok a S => exact fun p2 H2 h1 h3 => h p2 H2 (hx.trans h1) h3
  | exc c fs S => exact fun p2 H2 h1 h3 => h p2 H2 (hx.trans h1) h3
  | bad => exact h
theorem post_mono {r : Rs α} {k k' : α → Sto → List Addr → Hp → Prop} (hk : ∀ a S p' H', Ext K p H p' H' → RS K p' S H' → k a S p' H' → k' a S p' H') (h : post K W p H r k) : post K W p H r k' := by
  cases r with
  | ok a S => exact fun p2 H2 h1 h3 => hk _ _ _ _ h1 h3 (h p2 H2 h1 h3)
  | exc c fs S => exact h
  | bad => exact h
theorem post_bind {r : Rs α} {f : α → Sto → Rs β} {k : β → Sto → List Addr → Hp → Prop} (h : post K W p H (r.bind f) k) : post K W p H r fun a S' p' H' => post K W p' H' (f a S') k := by
  cases r with
  | ok a S => exact fun p2 H2 h1 _ => post_base h1 h
  | exc c fs S => exact h
  | bad => exact h
theorem post_bindB {r : Rs α} {f : α → Sto → Rs β} {k : β → Sto → List Addr → Hp → Prop} (h : post K W p H (r.bind f) k) : post K W p H r fun a S' _ _ => post K W p H (f a S') k := by
  cases r with
  | ok a S => exact fun p2 H2 h1 _ => h
  | exc c fs S => exact h
  | bad => exact h
theorem post_ok {a : α} {S : Sto} {k : α → Sto → List Addr → Hp → Prop} (h : post K W p H (.ok a S) k) (hs : RS K p S H) : k a S p H := h p H (Ext.refl _ _) hs
end

/-! ### the readings -/
abbrev kE (K : KX) (Q : VK) : D → Sto → List Addr → Hp → Prop := fun d _ p' H' => ∀ v, RD K p' H' d v → Q v H'
def lE (K : KX) (W : XW) (m : En → Sto → Rs D) : TE := fun σ H Q => ∃ p S E, RS K p S H ∧ RE K p H E σ ∧ post K W p H (m E S) (kE K Q)
def lT (K : KX) (W : XW) (m : En → Sto → Rs Bool) : TT := fun σ H Q => ∃ p S E, RS K p S H ∧ RE K p H E σ ∧ post K W p H (m E S) fun b _ _ H' => Q b H'
def lA (K : KX) (W : XW) (m : En → Sto → Rs (List D)) : TA := fun σ H Q => ∃ p S E, RS K p S H ∧ RE K p H E σ ∧ post K W p H (m E S) fun ds _ p' H' => ∀ vs, RDs K p' H' ds vs → Q vs H'
inductive Fl where
  | nx (E : En) | rt (d : D) | bk (E : En) | ct (E : En)
def kS (K : KX) (Z : Ends) : Fl → Sto → List Addr → Hp → Prop := fun fl _ p' H' => match fl with
  | .nx E' => ∀ σ', RE K p' H' E' σ' → Z.nx σ' H'
  | .rt d => ∀ v, RD K p' H' d v → Z.rt v H'
  | .bk E' => ∀ σ', RE K p' H' E' σ' → Z.bk σ' H'
  | .ct E' => ∀ σ', RE K p' H' E' σ' → Z.ct σ' H'
def lS (K : KX) (W : XW) (m : En → Sto → Rs Fl) : TS := fun Z σ H => ∃ p S E, RS K p S H ∧ RE K p H E σ ∧ post K W p H (m E S) (kS K Z)
def lG (K : KX) (W : XW) (g : D → En → Sto → Rs En) : TG := fun v σ H Q => ∃ p S E d, RS K p S H ∧ RE K p H E σ ∧ RD K p H d v ∧ post K W p H (g d E S) fun E' _ p' H' => ∀ σ', RE K p' H' E' σ' → Q σ' H'
def lGs (K : KX) (W : XW) (g : List D → En → Sto → Rs En) : TGs := fun vs σ H Q => ∃ p S E ds, RS K p S H ∧ RE K p H E σ ∧ RDs K p H ds vs ∧ post K W p H (g ds E S) fun E' _ p' H' => ∀ σ', RE K p' H' E' σ' → Q σ' H'
abbrev ME (X : Cx) (W : XW) (e : Expr) (m : En → Sto → Rs D) : Prop := PE X e (lE (gX X) W m)
abbrev MT (X : Cx) (W : XW) (e : Expr) (m : En → Sto → Rs Bool) : Prop := PT X e (lT (gX X) W m)
abbrev MW (X : Cx) (W : XW) (e : Expr) (m : En → Sto → Rs Bool) : Prop := PW X e (lT (gX X) W m)
abbrev MA (X : Cx) (W : XW) (es : List Expr) (m : En → Sto → Rs (List D)) : Prop := PA X es (lA (gX X) W m)
abbrev MS (X : Cx) (W : XW) (st : Stmt) (m : En → Sto → Rs Fl) : Prop := PS X st (lS (gX X) W m)
abbrev MSs (X : Cx) (W : XW) (st : List Stmt) (m : En → Sto → Rs Fl) : Prop := PSs X st (lS (gX X) W m)
abbrev MG (X : Cx) (W : XW) (tg : Expr) (g : D → En → Sto → Rs En) : Prop := PG X tg (lG (gX X) W g)
abbrev MGs (X : Cx) (W : XW) (tgs : List Expr) (g : List D → En → Sto → Rs En) : Prop := PGs X tgs (lGs (gX X) W g)

/-! ### readings weakened -/
section
variable {X : Cx}
theorem PE.imp {e : Expr} {t t' : TE} (h : PE X e t) (hi : ∀ σ H Q, t' σ H Q → t σ H Q) : PE X e t' := ⟨fun pins s σ H Q I hw => h.run pins s σ H Q I (hi σ H Q hw)⟩
theorem PT.imp {e : Expr} {t t' : TT} (h : PT X e t) (hi : ∀ σ H Q, t' σ H Q → t σ H Q) : PT X e t' := ⟨fun pins s σ H Q I hw => h.run pins s σ H Q I (hi σ H Q hw)⟩
theorem PW.imp {e : Expr} {t t' : TT} (h : PW X e t) (hi : ∀ σ H Q, t' σ H Q → t σ H Q) : PW X e t' := ⟨fun wh pins s σ H Q I hw => h.run wh pins s σ H Q I (hi σ H Q hw)⟩
theorem PA.imp {es : List Expr} {t t' : TA} (h : PA X es t) (hi : ∀ σ H Q, t' σ H Q → t σ H Q) : PA X es t' := ⟨fun pos pins s σ H Q I hw => h.run pos pins s σ H Q I (hi σ H Q hw)⟩
theorem PS.imp {st : Stmt} {t t' : TS} (h : PS X st t) (hi : ∀ Z σ H, t' Z σ H → t Z σ H) : PS X st t' := ⟨fun pins s σ H Z I hw => h.run pins s σ H Z I (hi Z σ H hw)⟩
theorem PSs.imp {st : List Stmt} {t t' : TS} (h : PSs X st t) (hi : ∀ Z σ H, t' Z σ H → t Z σ H) : PSs X st t' := ⟨fun pins s σ H Z I hw => h.run pins s σ H Z I (hi Z σ H hw)⟩
theorem PG.imp {tg : Expr} {t t' : TG} (h : PG X tg t) (hi : ∀ v σ H Q, t' v σ H Q → t v σ H Q) : PG X tg t' := ⟨fun pins s σ H v u Q I r hw => h.run pins s σ H v u Q I r (hi v σ H Q hw)⟩
theorem PGs.imp {tgs : List Expr} {t t' : TGs} (h : PGs X tgs t) (hi : ∀ vs σ H Q, t' vs σ H Q → t vs σ H Q) : PGs X tgs t' := ⟨fun pins s σ H vs us Q I r hw => h.run pins s σ H vs us Q I r (hi vs σ H Q hw)⟩
theorem PI.imp {tg iter : Expr} {t t' : TI} (h : PI X tg iter t) (hi : ∀ σ H R, t' σ H R → t σ H R) : PI X tg iter t' := ⟨fun pins s σ H R I hw => h.run pins s σ H R I (hi σ H R hw)⟩
end
end M

namespace M
open PySem L2
section
variable {X : Cx} {W : XW}

/-! ### names, constants -/
def mC (d : D) : En → Sto → Rs D := fun _ S => .ok d S
def mV (i : Nat) : En → Sto → Rs D := fun E S => match E[i]? with
  | some (some d) => .ok d S
  | _ => .bad
theorem lE_C {d : D} {v : V} (h : ∀ p H, RD (gX X) p H d v) {σ : St} {H : Hp} {Q : VK} (q : lE (gX X) W (mC d) σ H Q) : Q v H := by
  obtain ⟨p, S, E, hs, he, q⟩ := q
  exact post_ok q hs v (h p H)
theorem me_int {i : Int} {j : Nat} {pos : Pos} : ME X W (.Constant (.int i) j pos) (mC (.int i)) := PE.imp pe_int fun _ _ _ q => lE_C (d := .int i) (v := .int i) (fun _ _ => rfl) q
theorem me_bl {b : Bool} {j : Nat} {pos : Pos} : ME X W (.Constant (.bool b) j pos) (mC (.bl b)) := PE.imp pe_bl fun _ _ _ q => lE_C (d := .bl b) (v := .bl b) (fun _ _ => rfl) q
theorem me_non {j : Nat} {pos : Pos} : ME X W (.Constant .none j pos) (mC .non) := PE.imp pe_non fun _ _ _ q => lE_C (d := .non) (v := .non) (fun _ _ => rfl) q
theorem me_str {x : Str} {j : Nat} {pos : Pos} : ME X W (.Constant (.str x) j pos) (mC (.str x)) := PE.imp pe_str fun _ _ _ q => lE_C (d := .str x) (v := .str x) (fun _ _ => rfl) q
/-- a constant of the module -/
theorem me_glob {x : Str} {v : V} {u : Value} {d : D} {pos : Pos} (hg : Gl X x) (hm : X.mg x = some u) (r : RelV v u) (h : ∀ p H, RD (gX X) p H d v) (hd : (x == ("__debug__" : Str)) = false := by decide) : ME X W (.Name x pos) (mC d) :=
  PE.imp (pe_glob hg hm r hd) fun _ _ _ q => lE_C h q
theorem me_bltn {x : Str} {v : V} {u : Value} {pos : Pos} (hg : Gl X x) (hm : X.mg x = none) (hv : bootBuiltins x = some u) (r : RelV v u) (hn : x ≠ "__name__" := by decide) (hd : (x == ("__debug__" : Str)) = false := by decide) : ME X W (.Name x pos) (mC (.raw v)) :=
  PE.imp (pe_bltn hg hm hv r hn hd) fun _ _ _ q => lE_C (d := .raw v) (v := v) (fun _ _ => rfl) q
theorem lE_V {i : Nat} {σ : St} {H : Hp} {Q : VK} (q : lE (gX X) W (mV i) σ H Q) : tVar i σ H Q := by
  obtain ⟨p, S, E, hs, he, q⟩ := q
  unfold mV at q
  split at q
  · rename_i d hd
    obtain ⟨v, e, r⟩ := he.get i d hd
    exact ⟨v, e, post_ok q hs v r⟩
  · exact q.elim
theorem mv (i : Nat) {x : Str} {pos : Pos} (hN : X.N[i]? = some x := by rfl) (hv : Vis X.env.scope x := by first | exact Or.inl rfl | exact Or.inr (Or.inl rfl) | exact Or.inr (Or.inr rfl)) (hd : (x == ("__debug__" : Str)) = false := by decide)
    (hcd : (x == ("__classdict__" : Str)) = false := by decide) : ME X W (.Name x pos) (mV i) := PE.imp (pe_var hN hv hd hcd) fun _ _ _ q => lE_V q

/-! ### two in a row -/
def m2 (f : D → D → Sto → Rs D) (ma mb : En → Sto → Rs D) : En → Sto → Rs D := fun E S => (ma E S).bind fun x S1 => (mb E S1).bind fun y S2 => f x y S2
def m1 (f : D → Sto → Rs D) (ma : En → Sto → Rs D) : En → Sto → Rs D := fun E S => (ma E S).bind fun x S1 => f x S1
def Prim2 (K : KX) (W : XW) (r : R2) (f : D → D → Sto → Rs D) : Prop := ∀ (p : List Addr) (S : Sto) (H : Hp) (x y : D) (v u : V) (Q : VK), RS K p S H → RD K p H x v → RD K p H y u → post K W p H (f x y S) (kE K Q) → r v u H Q
def Prim1 (K : KX) (W : XW) (r : V → Hp → VK → Prop) (f : D → Sto → Rs D) : Prop := ∀ (p : List Addr) (S : Sto) (H : Hp) (x : D) (v : V) (Q : VK), RS K p S H → RD K p H x v → post K W p H (f x S) (kE K Q) → r v H Q
def PrimN (K : KX) (W : XW) (r : List V → Hp → VK → Prop) (f : List D → Sto → Rs D) : Prop := ∀ (p : List Addr) (S : Sto) (H : Hp) (xs : List D) (vs : List V) (Q : VK), RS K p S H → RDs K p H xs vs → post K W p H (f xs S) (kE K Q) → r vs H Q
def PrimM (K : KX) (W : XW) (r : V → List V → Hp → VK → Prop) (f : D → List D → Sto → Rs D) : Prop := ∀ (p : List Addr) (S : Sto) (H : Hp) (x : D) (xs : List D) (v : V) (vs : List V) (Q : VK), RS K p S H → RD K p H x v → RDs K p H xs vs → post K W p H (f x xs S) (kE K Q) → r v vs H Q
/-- the first of two pieces, and what is left for the second -/
theorem lE_step {K : KX} {m : En → Sto → Rs D} {E : En} {S : Sto} {p : List Addr} {σ : St} {H : Hp} {Q : VK} (hs : RS K p S H) (he : RE K p H E σ) (h : post K W p H (m E S) (kE K Q)) : lE K W m σ H Q := ⟨p, S, E, hs, he, h⟩
theorem m2_read {r : R2} {f : D → D → Sto → Rs D} {ma mb : En → Sto → Rs D} (hp : Prim2 (gX X) W r f) {σ : St} {H : Hp} {Q : VK} (q : lE (gX X) W (m2 f ma mb) σ H Q) : tOp r (lE (gX X) W ma) (lE (gX X) W mb) σ H Q := by
  obtain ⟨p, S, E, hs, he, q⟩ := q
  refine lE_step hs he (post_mono (fun x S1 p1 H1 x1 hs1 q1 v rv => ?_) (post_bind q))
  refine lE_step hs1 (he.mono x1.pre x1.tup) (post_mono (fun y S2 p2 H2 x2 hs2 q2 u ru => ?_) (post_bind q1))
  exact hp p2 S2 H2 x y v u Q hs2 (rv.mono x2.pre x2.tup) ru q2
theorem me_op {a b : Expr} {pos : Pos} {op : Operator} {r : R2} {f : D → D → Sto → Rs D} {ma mb : En → Sto → Rs D} (ho : OpR X (binaryOp op) r) (hp : Prim2 (gX X) W r f) (ha : ME X W a ma) (hb : ME X W b mb) : ME X W (.BinOp a op b pos) (m2 f ma mb) :=
  PE.imp (pe_op ho ha hb) fun _ _ _ q => m2_read hp q
theorem me_cmp {a b : Expr} {pos : Pos} {op : CmpOp} {r : R2} {f : D → D → Sto → Rs D} {ma mb : En → Sto → Rs D} (ho : OpR X (compareOp op) r) (hp : Prim2 (gX X) W r f) (ha : ME X W a ma) (hb : ME X W b mb) (hm : behindInMarks op b = false) : ME X W (.Compare a [op] [b] pos) (m2 f ma mb) :=
  PE.imp (pe_cmpR ho ha hb hm) fun _ _ _ q => m2_read hp q
theorem me_ix {a b : Expr} {pos : Pos} {r : R2} {f : D → D → Sto → Rs D} {ma mb : En → Sto → Rs D} (ho : IxR X r) (hp : Prim2 (gX X) W r f) (ha : ME X W a ma) (hb : ME X W b mb) (hs : PlainIx b) : ME X W (.Subscript a b pos) (m2 f ma mb) :=
  PE.imp (pe_ix ho ha hb hs) fun _ _ _ q => m2_read hp q
theorem me_un {a : Expr} {pos : Pos} {op : UnaryOp} {r : V → Hp → VK → Prop} {f : D → Sto → Rs D} {ma : En → Sto → Rs D} (ho : UnR X (unaryOp op) r) (hp : Prim1 (gX X) W r f) (ha : ME X W a ma) : ME X W (.UnaryOp op a pos) (m1 f ma) :=
  PE.imp (pe_un ho ha) fun σ H Q q => by
    obtain ⟨p, S, E, hs, he, q⟩ := q
    refine lE_step hs he (post_mono (fun x S1 p1 H1 x1 hs1 q1 v rv => ?_) (post_bind q))
    exact hp p1 S1 H1 x v Q hs1 rv q1

/-! ### tests -/
/-- the test of a value that is a truth -/
def asB (d : D) (S : Sto) : Rs Bool := match d with
  | .bl b => .ok b S
  | _ => .bad
def tB (m : En → Sto → Rs D) : En → Sto → Rs Bool := fun E S => (m E S).bind asB
/-- a value's truth -/
def truth (d : D) (S : Sto) : Rs Bool := match d with
  | .non => .ok false S
  | .bl b => .ok b S
  | .int i => .ok (i != 0) S
  | .str x => if x.length ≤ sizeLine then .ok ((x.length : Int) != 0) S else .bad
  | .tup ds => .ok (!ds.isEmpty) S
  | .ref n => match S[n]? with
    | some (.lst ds) => .ok (!ds.isEmpty) S
    | some (.dk kvs) => .ok (!kvs.isEmpty) S
    | _ => .bad
  | .raw _ => .bad
  | .rl ns => .ok (!ns.isEmpty) S
def tV (m : En → Sto → Rs D) : En → Sto → Rs Bool := fun E S => (m E S).bind truth
theorem asB_read {p : List Addr} {S : Sto} {H : Hp} {d : D} {v : V} {k : Bool → Sto → List Addr → Hp → Prop} (hs : RS (gX X) p S H) (r : RD (gX X) p H d v) (q : post (gX X) W p H (asB d S) k) : ∃ c, v = .bl c ∧ k c S p H := by
  unfold asB at q
  split at q
  · rename_i b
    exact ⟨b, r, post_ok q hs⟩
  · exact q.elim
theorem mt_cmp {a b : Expr} {pos : Pos} {op : CmpOp} {r : R2} {f : D → D → Sto → Rs D} {ma mb : En → Sto → Rs D} (ho : OpR X (compareOp op) r) (hp : Prim2 (gX X) W r f) (ha : ME X W a ma) (hb : ME X W b mb) (hm : behindInMarks op b = false) : MT X W (.Compare a [op] [b] pos) (tB (m2 f ma mb)) :=
  PT.imp (pt_cmpR ho ha hb hm) fun σ H Q q => by
    obtain ⟨p, S, E, hs, he, q⟩ := q
    refine m2_read hp (lE_step hs he (post_mono (fun x S1 p1 H1 x1 hs1 q1 v rv => ?_) (post_bind q)))
    exact asB_read hs1 rv q1
theorem mt_val {e : Expr} {m : En → Sto → Rs D} (h : ME X W e m) (he : ∀ whole, isTrue e X.env whole = (do let v ← whole; standAt e.pos; holding [v] (truthy v)) := by intro _; rfl) : MT X W e (tB m) :=
  PT.imp (pt_val h he) fun σ H Q q => by
    obtain ⟨p, S, E, hs, he, q⟩ := q
    refine lE_step hs he (post_mono (fun x S1 p1 H1 x1 hs1 q1 v rv => ?_) (post_bind q))
    exact asB_read hs1 rv q1
theorem isEmpty_of_length {α β : Type} {a : List α} {b : List β} (h : a.length = b.length) : a.isEmpty = b.isEmpty := by
  cases a <;> cases b <;> first | rfl | simp at h
theorem truth_read {p : List Addr} {S : Sto} {H : Hp} {d : D} {v : V} {k : Bool → Sto → List Addr → Hp → Prop} (hs : RS (gX X) p S H) (r : RD (gX X) p H d v) (q : post (gX X) W p H (truth d S) k) : ∃ c, TruV X.K v H c ∧ k c S p H := by
  unfold truth at q
  cases d with
  | non => obtain rfl : v = V.non := r; exact ⟨false, rfl, post_ok q hs⟩
  | bl b => obtain rfl : v = V.bl b := r; exact ⟨b, rfl, post_ok q hs⟩
  | int i => obtain rfl : v = V.int i := r; exact ⟨_, rfl, post_ok q hs⟩
  | str x =>
    obtain rfl : v = V.str x := r
    simp only at q
    split at q
    · rename_i hl
      exact ⟨_, ⟨hl, rfl⟩, post_ok q hs⟩
    · exact q.elim
  | tup ds =>
    obtain ⟨a, vs, rfl, e, rs⟩ := r
    refine ⟨!ds.isEmpty, .inr (.inl ⟨vs, e, ?_⟩), post_ok q hs⟩
    rw [isEmpty_of_length rs.length]
  | ref n =>
    obtain ⟨a, ea, rfl⟩ := r
    simp only at q
    split at q
    · rename_i ds hd
      obtain ⟨x, ex, vs, rfl, rs⟩ := hs.get n a _ ea hd
      refine ⟨!ds.isEmpty, .inl ⟨vs, .of ex, ?_⟩, post_ok q hs⟩
      rw [isEmpty_of_length rs.length]
    · rename_i kvs hd
      obtain ⟨x, ex, ws, rfl, hk, rs⟩ := hs.get n a _ ea hd
      refine ⟨!kvs.isEmpty, .inr (.inr ⟨ws, ex, ?_⟩), post_ok q hs⟩
      rw [isEmpty_of_length (a := kvs) (b := ws) (by simpa using congrArg List.length hk)]
    · exact q.elim
  | raw u => exact q.elim
  | rl ns =>
    obtain ⟨a, rfl, e⟩ := r
    exact ⟨!ns.isEmpty, .inl ⟨_, e.sq, by rw [isEmpty_of_length (List.length_map _)]⟩, post_ok q hs⟩
theorem mt_truth {e : Expr} {m : En → Sto → Rs D} (h : ME X W e m) (he : ∀ whole, isTrue e X.env whole = (do let v ← whole; standAt e.pos; holding [v] (truthy v)) := by intro _; rfl) : MT X W e (tV m) :=
  PT.imp (pt_truth h he) fun σ H Q q => by
    obtain ⟨p, S, E, hs, he, q⟩ := q
    refine lE_step hs he (post_mono (fun x S1 p1 H1 x1 hs1 q1 v rv => ?_) (post_bind q))
    exact truth_read hs1 rv q1
def tAndM (a b : En → Sto → Rs Bool) : En → Sto → Rs Bool := fun E S => (a E S).bind fun c S1 => if c = true then b E S1 else .ok false S1
def tOrM (a b : En → Sto → Rs Bool) : En → Sto → Rs Bool := fun E S => (a E S).bind fun c S1 => if c = true then .ok true S1 else b E S1
def tNotM (a : En → Sto → Rs Bool) : En → Sto → Rs Bool := fun E S => (a E S).bind fun c S1 => .ok (!c) S1
variable {a b : Expr} {pos : Pos} {rest : List Expr} {ma mb : En → Sto → Rs Bool}
theorem mw_and1 (ha : MT X W a ma) : MW X W (.BoolOp .And [a] pos) ma := pw_and1 ha
theorem mw_or1 (ha : MT X W a ma) : MW X W (.BoolOp .Or [a] pos) ma := pw_or1 ha
theorem mw_and (ha : MT X W a ma) (hb : MW X W (.BoolOp .And (b :: rest) pos) mb) : MW X W (.BoolOp .And (a :: b :: rest) pos) (tAndM ma mb) :=
  PW.imp (pw_and ha hb) fun σ H Q q => by
    obtain ⟨p, S, E, hs, he, q⟩ := q
    refine ⟨p, S, E, hs, he, post_mono (fun c S1 p1 H1 x1 hs1 q1 => ?_) (post_bind q)⟩
    cases c with
    | true => exact ⟨p1, S1, E, hs1, he.mono x1.pre x1.tup, q1⟩
    | false => exact post_ok q1 hs1
theorem mw_or (ha : MT X W a ma) (hb : MW X W (.BoolOp .Or (b :: rest) pos) mb) : MW X W (.BoolOp .Or (a :: b :: rest) pos) (tOrM ma mb) :=
  PW.imp (pw_or ha hb) fun σ H Q q => by
    obtain ⟨p, S, E, hs, he, q⟩ := q
    refine ⟨p, S, E, hs, he, post_mono (fun c S1 p1 H1 x1 hs1 q1 => ?_) (post_bind q)⟩
    cases c with
    | false => exact ⟨p1, S1, E, hs1, he.mono x1.pre x1.tup, q1⟩
    | true => exact post_ok q1 hs1
theorem mt_not (ha : MT X W a ma) : MT X W (.UnaryOp .Not a pos) (tNotM ma) :=
  PT.imp (pt_not ha) fun σ H Q q => by
    obtain ⟨p, S, E, hs, he, q⟩ := q
    exact ⟨p, S, E, hs, he, post_mono (fun c S1 p1 H1 x1 hs1 q1 => post_ok q1 hs1) (post_bind (f := fun c S1 => Rs.ok (!c) S1) q)⟩
/-! and, or, not as values, by truth -/
variable {na nb : En → Sto → Rs D}
def vAnd (a b : En → Sto → Rs D) : En → Sto → Rs D := fun E S => (a E S).bind fun d S1 => (truth d S1).bind fun c S2 => if c = true then b E S2 else .ok d S2
def vOr (a b : En → Sto → Rs D) : En → Sto → Rs D := fun E S => (a E S).bind fun d S1 => (truth d S1).bind fun c S2 => if c = true then .ok d S2 else b E S2
def vNot (a : En → Sto → Rs D) : En → Sto → Rs D := fun E S => (a E S).bind fun d S1 => (truth d S1).bind fun c S2 => .ok (.bl (!c)) S2
theorem me_one {op : BoolOp} (h : ME X W a na) : ME X W (.BoolOp op [a] pos) na := pe_one h
theorem me_and (ha : ME X W a na) (hb : ME X W (.BoolOp .And (b :: rest) pos) nb) : ME X W (.BoolOp .And (a :: b :: rest) pos) (vAnd na nb) :=
  PE.imp (pe_andT ha hb) fun σ H Q q => by
    obtain ⟨p, S, E, hs, he, q⟩ := q
    refine ⟨p, S, E, hs, he, post_mono (fun d S1 p1 H1 x1 hs1 q1 v rv => ?_) (post_bind q)⟩
    obtain ⟨c, tr, q2⟩ := truth_read hs1 rv (post_bind q1)
    refine ⟨c, tr, ?_⟩
    cases c with
    | true => exact ⟨p1, S1, E, hs1, he.mono x1.pre x1.tup, q2⟩
    | false => exact post_ok q2 hs1 v rv
theorem me_or (ha : ME X W a na) (hb : ME X W (.BoolOp .Or (b :: rest) pos) nb) : ME X W (.BoolOp .Or (a :: b :: rest) pos) (vOr na nb) :=
  PE.imp (pe_orT ha hb) fun σ H Q q => by
    obtain ⟨p, S, E, hs, he, q⟩ := q
    refine ⟨p, S, E, hs, he, post_mono (fun d S1 p1 H1 x1 hs1 q1 v rv => ?_) (post_bind q)⟩
    obtain ⟨c, tr, q2⟩ := truth_read hs1 rv (post_bind q1)
    refine ⟨c, tr, ?_⟩
    cases c with
    | false => exact ⟨p1, S1, E, hs1, he.mono x1.pre x1.tup, q2⟩
    | true => exact post_ok q2 hs1 v rv
theorem me_not (ha : ME X W a na) : ME X W (.UnaryOp .Not a pos) (vNot na) :=
  PE.imp (pe_notT ha) fun σ H Q q => by
    obtain ⟨p, S, E, hs, he, q⟩ := q
    refine ⟨p, S, E, hs, he, post_mono (fun d S1 p1 H1 x1 hs1 q1 v rv => ?_) (post_bind q)⟩
    obtain ⟨c, tr, q2⟩ := truth_read hs1 rv (post_bind q1)
    exact ⟨c, tr, post_ok q2 hs1 _ rfl⟩
def mIfE (t : En → Sto → Rs Bool) (a b : En → Sto → Rs D) : En → Sto → Rs D := fun E S => (t E S).bind fun c S1 => if c = true then a E S1 else b E S1
theorem me_if {c : Expr} {mc : En → Sto → Rs Bool} (hc : MT X W c mc) (ha : ME X W a na) (hb : ME X W b nb) : ME X W (.IfExp c a b pos) (mIfE mc na nb) :=
  PE.imp (pe_ifExp hc ha hb) fun σ H Q q => by
    obtain ⟨p, S, E, hs, he, q⟩ := q
    refine ⟨p, S, E, hs, he, post_mono (fun d S1 p1 H1 x1 hs1 q1 => ?_) (post_bind q)⟩
    cases d with
    | true => exact ⟨p1, S1, E, hs1, he.mono x1.pre x1.tup, q1⟩
    | false => exact ⟨p1, S1, E, hs1, he.mono x1.pre x1.tup, q1⟩

/-! ### argument lists, displays -/
def aNil : En → Sto → Rs (List D) := fun _ S => .ok [] S
def aCons (a : En → Sto → Rs D) (r : En → Sto → Rs (List D)) : En → Sto → Rs (List D) := fun E S => (a E S).bind fun x S1 => (r E S1).bind fun xs S2 => .ok (x :: xs) S2
theorem ma_nil : MA X W [] aNil := PA.imp pa_nil fun σ H Q q => by
  obtain ⟨p, S, E, hs, he, q⟩ := q
  exact post_ok q hs [] rfl
theorem ma_cons {es : List Expr} {r : En → Sto → Rs (List D)} (ha : ME X W a na) (hr : MA X W es r) (hs : starEach (a :: es) X.env = (false, eval a X.env) :: starEach es X.env := by rfl) : MA X W (a :: es) (aCons na r) :=
  PA.imp (pa_cons ha hr hs) fun σ H Q q => by
    obtain ⟨p, S, E, hs, he, q⟩ := q
    refine ⟨p, S, E, hs, he, post_mono (fun d S1 p1 H1 x1 hs1 q1 v rv => ?_) (post_bind q)⟩
    refine ⟨p1, S1, E, hs1, he.mono x1.pre x1.tup, post_mono (fun ds S2 p2 H2 x2 hs2 q2 vs rvs => ?_) (post_bind q1)⟩
    exact post_ok q2 hs2 (v :: vs) ⟨v, vs, rfl, rv.mono x2.pre x2.tup, rvs⟩
def mTup (t : En → Sto → Rs (List D)) : En → Sto → Rs D := fun E S => (t E S).bind fun ds S1 => if ds.length ≤ sizeLine then .ok (.tup ds) S1 else .bad
def mLst (t : En → Sto → Rs (List D)) : En → Sto → Rs D := fun E S => (t E S).bind fun ds S1 => if ds.length ≤ sizeLine then .ok (.ref S1.length) (S1 ++ [.lst ds]) else .bad
/-- a new tuple -/
theorem new_tup {K : KX} {p : List Addr} {S : Sto} {H : Hp} {ds : List D} {vs : List V} {Q : VK} (hs : RS K p S H) (r : RDs K p H ds vs) (q : post K W p H (.ok (.tup ds) S) (kE K Q)) {a : Addr} (ha : H a = none) : Q (.ref a) (upd H a (.tup vs)) :=
  q p _ (Ext.new ha) (hs.frame ha) (.ref a) ⟨a, vs, rfl, .of upd_same, r.mono (Pre.refl _) (Keep.new ha)⟩
/-- a new object of the store -/
theorem new_obj {K : KX} {p : List Addr} {S : Sto} {H : Hp} {o : O} {x : HO} {Q : VK} {a : Addr} (hs : RS K p S H) (r : RO K p H a o x) (q : post K W p H (.ok (.ref S.length) (S ++ [o])) (kE K Q)) (ha : H a = none) : Q (.ref a) (upd H a x) := by
  refine q (p ++ [a]) _ (Ext.alloc ha) (hs.alloc ha r) (.ref a) ⟨a, ?_, rfl⟩
  rw [← hs.len]; simp
theorem me_tup {es : List Expr} {t : En → Sto → Rs (List D)} {x1 : Nat} (h : MA X W es t) : ME X W (.Tuple es x1 pos) (mTup t) :=
  PE.imp (pe_tup h) fun σ H Q q => by
    obtain ⟨p, S, E, hs, he, q⟩ := q
    refine ⟨p, S, E, hs, he, post_mono (fun ds S1 p1 H1 x1 hs1 q1 vs rvs => ?_) (post_bind q)⟩
    split at q1
    · rename_i hl
      exact ⟨by rw [← rvs.length]; exact hl, fun a ha => new_tup hs1 rvs q1 ha⟩
    · exact q1.elim
theorem me_lst {es : List Expr} {t : En → Sto → Rs (List D)} (h : MA X W es t) : ME X W (.List es pos) (mLst t) :=
  PE.imp (pe_lst h) fun σ H Q q => by
    obtain ⟨p, S, E, hs, he, q⟩ := q
    refine ⟨p, S, E, hs, he, post_mono (fun ds S1 p1 H1 x1 hs1 q1 vs rvs => ?_) (post_bind q)⟩
    split at q1
    · rename_i hl
      exact ⟨by rw [← rvs.length]; exact hl, fun a ha => new_obj hs1 (o := .lst ds) ⟨vs, rfl, rvs⟩ q1 ha⟩
    · exact q1.elim
/-- a call of a built-in by values -/
def mN (f : List D → Sto → Rs D) (t : En → Sto → Rs (List D)) : En → Sto → Rs D := fun E S => (t E S).bind fun ds S1 => f ds S1
theorem mN_read {r : List V → Hp → VK → Prop} {f : List D → Sto → Rs D} {t : En → Sto → Rs (List D)} (hp : PrimN (gX X) W r f) {σ : St} {H : Hp} {Q : VK} (q : lE (gX X) W (mN f t) σ H Q) : lA (gX X) W t σ H fun vs H1 => r vs H1 Q := by
  obtain ⟨p, S, E, hs, he, q⟩ := q
  exact ⟨p, S, E, hs, he, post_mono (fun ds S1 p1 H1 x1 hs1 q1 vs rvs => hp p1 S1 H1 ds vs Q hs1 rvs q1) (post_bind q)⟩
theorem me_callB {x : Str} {id : String} {r : List V → Hp → VK → Prop} {f : List D → Sto → Rs D} {t : En → Sto → Rs (List D)} {e : Expr} {es : List Expr} {p : Pos} (hc : CallR X (.builtin id) r) (hp : PrimN (gX X) W r f) (hg : Gl X x) (hm : X.mg x = none) (hv : bootBuiltins x = some (.builtin id)) (ha : MA X W (e :: es) t) (hn : x ≠ "__name__" := by decide) (hdb : (x == ("__debug__" : Str)) = false := by decide)
    (he : starEach (e :: es) X.env = (false, eval e X.env) :: starEach es X.env := by rfl) (hpl : (backTo pos (starEach es X.env)).any (·.1) = false := by rfl) : ME X W (.Call (.Name x p) (e :: es) [] pos) (mN f t) :=
  PE.imp (pe_callB hc hg hm hv ha hn hdb he hpl) fun _ _ _ q => mN_read hp q
theorem me_callTy {x : Str} {T : String} {r : List V → Hp → VK → Prop} {f : List D → Sto → Rs D} {t : En → Sto → Rs (List D)} {e : Expr} {es : List Expr} {p : Pos} (hc : CallR X (.type T) r) (hp : PrimN (gX X) W r f) (hg : Gl X x) (hm : X.mg x = none) (hv : bootBuiltins x = some (.type T)) (ha : MA X W (e :: es) t) (hn : x ≠ "__name__" := by decide) (hdb : (x == ("__debug__" : Str)) = false := by decide)
    (he : starEach (e :: es) X.env = (false, eval e X.env) :: starEach es X.env := by rfl) (hpl : (backTo pos (starEach es X.env)).any (·.1) = false := by rfl) : ME X W (.Call (.Name x p) (e :: es) [] pos) (mN f t) :=
  PE.imp (pe_callTy hc hg hm hv ha hn hdb he hpl) fun _ _ _ q => mN_read hp q
end
end M

namespace M
open PySem L2
section
variable {X : Cx} {W : XW}

/-! ### targets -/
def gN (i : Nat) : D → En → Sto → Rs En := fun d E S => .ok (E.set i (some d)) S
def gT (n : Nat) (g : List D → En → Sto → Rs En) : D → En → Sto → Rs En := fun d E S => match d with
  | .tup ds => if ds.length = n then g ds E S else .bad
  | _ => .bad
def gNil : List D → En → Sto → Rs En := fun ds E S => match ds with
  | [] => .ok E S
  | _ :: _ => .bad
def gCons (g : D → En → Sto → Rs En) (r : List D → En → Sto → Rs En) : List D → En → Sto → Rs En := fun ds E S => match ds with
  | [] => .bad
  | d :: ds => (g d E S).bind fun E1 S1 => r ds E1 S1
theorem mg_name {i : Nat} {x : Str} {pos : Pos} (hN : X.N.Nodup) (hi : X.N[i]? = some x) (hx : Loc X.env.scope x) (hf : X.fn x = true ∨ X.env.scope.names.lookup x = some .local := by first | exact .inl rfl | exact .inr rfl | assumption) : MG X W (.Name x pos) (gN i) :=
  PG.imp (pg_name hN hi hx hf) fun v σ H Q q => by
    obtain ⟨p, S, E, d, hs, he, r, q⟩ := q
    exact post_ok q hs _ (he.set r)
theorem mgs_nil : MGs X W [] gNil := PGs.imp pgs_nil fun vs σ H Q q => by
  obtain ⟨p, S, E, ds, hs, he, r, q⟩ := q
  cases ds with
  | nil => exact ⟨r, post_ok q hs _ he⟩
  | cons d ds => exact q.elim
theorem mgs_cons {e : Expr} {es : List Expr} {g : D → En → Sto → Rs En} {r : List D → En → Sto → Rs En} (h1 : MG X W e g) (h2 : MGs X W es r)
    (hs : (assignEach (e :: es) X.env).map (·.2) = assign e X.env :: (assignEach es X.env).map (·.2) := by rfl) : MGs X W (e :: es) (gCons g r) :=
  PGs.imp (pgs_cons h1 h2 hs) fun vs σ H Q q => by
    obtain ⟨p, S, E, ds, hs, he, rr, q⟩ := q
    cases ds with
    | nil => exact q.elim
    | cons d ds =>
      obtain ⟨v, us, rfl, rv, rvs⟩ := rr
      refine ⟨v, us, rfl, p, S, E, d, hs, he, rv, post_mono (fun E1 S1 p1 H1 x1 hs1 q1 σ1 he1 => ?_) (post_bind q)⟩
      exact ⟨p1, S1, E1, ds, hs1, he1, rvs.mono x1.pre x1.tup, q1⟩
theorem mg_tup {es : List Expr} {k : Nat} {g : List D → En → Sto → Rs En} {n : Nat} {pos : Pos} (hc : X.calm = true) (h : MGs X W es g)
    (hn : (assignEach es X.env).length = n := by rfl) (hst : (assignEach es X.env).findIdx? (·.1) = none := by rfl) : MG X W (.Tuple es k pos) (gT n g) :=
  PG.imp (pg_tup hc h hn hst) fun v σ H Q q => by
    obtain ⟨p, S, E, d, hs, he, r, q⟩ := q
    unfold gT at q
    split at q
    · rename_i ds
      obtain ⟨a, vs, rfl, e, rs⟩ := r
      split at q
      · rename_i hl
        exact ⟨a, vs, rfl, e, by rw [← rs.length]; exact hl, p, S, E, ds, hs, he, rs, q⟩
      · exact q.elim
    · exact q.elim
/-- o[i] = v -/
def gS (f : D → D → D → Sto → Rs Unit) (mo mi : En → Sto → Rs D) : D → En → Sto → Rs En := fun d E S => (mo E S).bind fun o S1 => (mi E S1).bind fun i S2 => (f o i d S2).bind fun _ S3 => .ok E S3
def PrimS (K : KX) (W : XW) (t : TSet) (f : D → D → D → Sto → Rs Unit) : Prop := ∀ (p : List Addr) (S : Sto) (H : Hp) (o i d : D) (ov iv v : V) (Q : Hp → Prop), RS K p S H → RD K p H o ov → RD K p H i iv → RD K p H d v →
  post K W p H (f o i d S) (fun _ _ _ H' => Q H') → t ov iv v H Q
theorem mg_sub {o i : Expr} {mo mi : En → Sto → Rs D} {t : TSet} {f : D → D → D → Sto → Rs Unit} {pos : Pos} (hp : PrimS (gX X) W t f) (ho : ME X W o mo) (hi : ME X W i mi) (hs : PSet X t)
    (ha : ∀ v, assign (.Subscript o i pos) X.env v = (do
      let ov ← holding [v] (eval o X.env)
      let iv ← holding [v, ov] (eval i X.env)
      standAt pos
      holding [v, ov, iv] (setItem ov iv v)
      release [v, ov, iv] []) := by intro _; rfl) : MG X W (.Subscript o i pos) (gS f mo mi) :=
  PG.imp (pg_sub ho hi hs ha) fun v σ H Q q => by
    obtain ⟨p, S, E, d, hs, he, r, q⟩ := q
    refine lE_step hs he (post_mono (fun x S1 p1 H1 x1 hs1 q1 ov rov => ?_) (post_bind q))
    refine lE_step hs1 (he.mono x1.pre x1.tup) (post_mono (fun y S2 p2 H2 x2 hs2 q2 iv riv => ?_) (post_bind q1))
    refine hp p2 S2 H2 x y d ov iv v _ hs2 (rov.mono x2.pre x2.tup) riv ((r.mono x1.pre x1.tup).mono x2.pre x2.tup) (post_mono (fun _ S3 p3 H3 x3 hs3 q3 => ?_) (post_bind q2))
    exact post_ok q3 hs3 σ (((he.mono x1.pre x1.tup).mono x2.pre x2.tup).mono x3.pre x3.tup)

/-! ### statements -/
def sNil : En → Sto → Rs Fl := fun E S => .ok (.nx E) S
def thenF (b : En → Sto → Rs Fl) : Fl → Sto → Rs Fl := fun fl S => match fl with
  | .nx E => b E S
  | .rt d => .ok (.rt d) S
  | .bk E => .ok (.bk E) S
  | .ct E => .ok (.ct E) S
def sSeq (a b : En → Sto → Rs Fl) : En → Sto → Rs Fl := fun E S => (a E S).bind (thenF b)
theorem mss_nil : MSs X W [] sNil := PSs.imp pss_nil fun Z σ H q => by
  obtain ⟨p, S, E, hs, he, q⟩ := q
  exact post_ok q hs σ he
theorem mss_cons {st : Stmt} {rest : List Stmt} {a b : En → Sto → Rs Fl} (h1 : MS X W st a) (h2 : MSs X W rest b) : MSs X W (st :: rest) (sSeq a b) :=
  PSs.imp (pss_cons h1 h2) fun Z σ H q => by
    obtain ⟨p, S, E, hs, he, q⟩ := q
    refine ⟨p, S, E, hs, he, post_mono (fun fl S1 p1 H1 x1 hs1 q1 => ?_) (post_bind q)⟩
    cases fl with
    | nx E1 => exact fun σ1 he1 => ⟨p1, S1, E1, hs1, he1, q1⟩
    | rt d => exact post_ok (W := W) (a := Fl.rt d) q1 hs1
    | bk E1 => exact post_ok (W := W) (a := Fl.bk E1) q1 hs1
    | ct E1 => exact post_ok (W := W) (a := Fl.ct E1) q1 hs1
theorem mss_one {st : Stmt} {a : En → Sto → Rs Fl} (h1 : MS X W st a) : MSs X W [st] a := pss_one h1
/-- slots forgotten behind a statement -/
def wipeE (l : List Nat) (E : En) : En := l.foldl (fun E i => E.set i none) E
theorem wipeE_len : ∀ (l : List Nat) (E : En), (wipeE l E).length = E.length
  | [], _ => rfl
  | i :: l, E => by
    show (wipeE l (E.set i none)).length = _
    rw [wipeE_len l, List.length_set]
theorem wipeE_get : ∀ (l : List Nat) (E : En) (j : Nat) (d : D), (wipeE l E)[j]? = some (some d) → E[j]? = some (some d)
  | [], _, _, _, h => h
  | i :: l, E, j, d, h => by
    have h := wipeE_get l (E.set i none) j d h
    by_cases hj : i = j
    · subst hj
      rw [List.getElem?_set_self'] at h
      cases hq : E[i]? with
      | none => rw [hq] at h; cases h
      | some x => rw [hq] at h; cases h
    · rw [List.getElem?_set_ne hj] at h
      exact h
def wipeF (l : List Nat) : Fl → Fl
  | .nx E => .nx (wipeE l E)
  | .rt d => .rt d
  | .bk E => .bk (wipeE l E)
  | .ct E => .ct (wipeE l E)
def sWipe (l : List Nat) (m : En → Sto → Rs Fl) : En → Sto → Rs Fl := fun E S => (m E S).bind fun fl S1 => .ok (wipeF l fl) S1
theorem wipe_read {l : List Nat} {m : En → Sto → Rs Fl} {Z : Ends} {σ : St} {H : Hp} (q : lS (gX X) W (sWipe l m) Z σ H) : lS (gX X) W m Z σ H := by
  obtain ⟨p, S, E, hs, he, q⟩ := q
  refine ⟨p, S, E, hs, he, post_mono (fun fl S1 p1 H1 x1 hs1 q1 => ?_) (post_bind q)⟩
  have q2 := post_ok q1 hs1
  cases fl with
  | nx E1 => exact fun σ1 he1 => q2 σ1 (he1.weak (wipeE_len _ _) (wipeE_get _ _))
  | rt d => exact q2
  | bk E1 => exact fun σ1 he1 => q2 σ1 (he1.weak (wipeE_len _ _) (wipeE_get _ _))
  | ct E1 => exact fun σ1 he1 => q2 σ1 (he1.weak (wipeE_len _ _) (wipeE_get _ _))
theorem ms_wipe (l : List Nat) {st : Stmt} {a : En → Sto → Rs Fl} (h : MS X W st a) : MS X W st (sWipe l a) := PS.imp h fun _ _ _ q => wipe_read q
theorem mss_wipe (l : List Nat) {st : List Stmt} {a : En → Sto → Rs Fl} (h : MSs X W st a) : MSs X W st (sWipe l a) := PSs.imp h fun _ _ _ q => wipe_read q
def sAsg (m : En → Sto → Rs D) (g : D → En → Sto → Rs En) : En → Sto → Rs Fl := fun E S => (m E S).bind fun d S1 => (g d E S1).bind fun E1 S2 => .ok (.nx E1) S2
theorem asg_read {m : En → Sto → Rs D} {g : D → En → Sto → Rs En} {Z : Ends} {σ : St} {H : Hp} (q : lS (gX X) W (sAsg m g) Z σ H) : tAsg (lE (gX X) W m) (lG (gX X) W g) Z σ H := by
  obtain ⟨p, S, E, hs, he, q⟩ := q
  refine lE_step hs he (post_mono (fun d S1 p1 H1 x1 hs1 q1 v rv => ?_) (post_bind q))
  refine ⟨p1, S1, E, d, hs1, he.mono x1.pre x1.tup, rv, post_mono (fun E1 S2 p2 H2 x2 hs2 q2 σ' he' => ?_) (post_bind q1)⟩
  exact post_ok q2 hs2 σ' he'
theorem ms_asg {tg e : Expr} {m : En → Sto → Rs D} {g : D → En → Sto → Rs En} {pos : Pos} (he : ME X W e m) (hg : MG X W tg g) (hs : swapsWithSole [tg] e pos.line X.env = pure false := by rfl) (hw : swappedStores [tg] e X.env = pure none := by rfl)
    (h1 : (assignEach [tg] X.env).map (·.2) = [assign tg X.env] := by rfl) : MS X W (.Assign [tg] e pos) (sAsg m g) := PS.imp (ps_asg he hg hs hw h1) fun _ _ _ q => asg_read q
theorem asgN_read {t : TE} {m : En → Sto → Rs D} {i : Nat} {Z : Ends} {σ : St} {H : Hp} (ht : ∀ σ H Q, lE (gX X) W m σ H Q → t σ H Q) (q : lS (gX X) W (sAsg m (gN i)) Z σ H) : tAsg t (gName i) Z σ H := by
  obtain ⟨p, S, E, hs, he, q⟩ := q
  refine ht _ _ _ (lE_step hs he (post_mono (fun d S1 p1 H1 x1 hs1 q1 v rv => ?_) (post_bind q)))
  exact post_ok q1 hs1 _ ((he.mono x1.pre x1.tup).set rv)
theorem ms_set {i : Nat} {x : Str} {e : Expr} {m : En → Sto → Rs D} {pos pos' : Pos} (hN : X.N.Nodup) (hi : X.N[i]? = some x) (hx : Loc X.env.scope x) (he : ME X W e m) (hs : swapsWith e (some (.Name x pos')) pos.line X.env = pure false := by rfl) (hf : X.fn x = true ∨ X.env.scope.names.lookup x = some .local := by first | exact .inl rfl | exact .inr rfl | assumption) :
    MS X W (.Assign [.Name x pos'] e pos) (sAsg m (gN i)) := PS.imp (ps_set hN hi hx he hs hf) fun _ _ _ q => asgN_read (fun _ _ _ q => q) q
/-- o[i] = e -/
theorem asg2_read {m1' m2' : D → En → Sto → Rs En} {m : En → Sto → Rs D} {Z : Ends} {σ : St} {H : Hp} (q : lS (gX X) W (sAsg m (fun d E S => (m1' d E S).bind fun E1 S1 => m2' d E1 S1)) Z σ H) : tAsg2 (lE (gX X) W m) (lG (gX X) W m1') (lG (gX X) W m2') Z σ H := by
  obtain ⟨p, S, E, hs, he, q⟩ := q
  refine lE_step hs he (post_mono (fun d S1 p1 H1 x1 hs1 q1 v rv => ?_) (post_bind q))
  have q1' := post_bind q1
  change post _ _ _ _ ((m1' d E S1).bind fun E1 S1 => m2' d E1 S1) _ at q1'
  refine ⟨p1, S1, E, d, hs1, he.mono x1.pre x1.tup, rv, post_mono (fun E1 S2 p2 H2 x2 hs2 q2 σ' he' => ?_) (post_bind q1')⟩
  refine ⟨p2, S2, E1, d, hs2, he', rv.mono x2.pre x2.tup, post_mono (fun E3 S3 p3 H3 x3 hs3 q3 σ3 he3 => ?_) q2⟩
  exact post_ok q3 hs3 σ3 he3
theorem ms_asg2 {t1 t2 e : Expr} {m : En → Sto → Rs D} {g1 g2 : D → En → Sto → Rs En} {pos : Pos} (he : ME X W e m) (h1 : MG X W t1 g1) (h2 : MG X W t2 g2) (ha : (assignEach [t1, t2] X.env).map (·.2) = [assign t1 X.env, assign t2 X.env] := by rfl) (hw : swappedStores [t1, t2] e X.env = pure none := by rfl) :
    MS X W (.Assign [t1, t2] e pos) (sAsg m (fun d E S => (g1 d E S).bind fun E1 S1 => g2 d E1 S1)) := PS.imp (ps_asg2 he h1 h2 ha hw) fun _ _ _ q => asg2_read q
def sExpr (m : En → Sto → Rs D) : En → Sto → Rs Fl := fun E S => (m E S).bind fun _ S1 => .ok (.nx E) S1
theorem ms_expr {e : Expr} {m : En → Sto → Rs D} {pos : Pos} (he : ME X W e m) (hs : swapsWith e none pos.line X.env = pure false := by rfl) : MS X W (.Expr e pos) (sExpr m) :=
  PS.imp (ps_expr he hs) fun Z σ H q => by
    obtain ⟨p, S, E, hs, he, q⟩ := q
    refine lE_step hs he (post_mono (fun d S1 p1 H1 x1 hs1 q1 v rv => ?_) (post_bind (f := fun _ S1 => Rs.ok (Fl.nx E) S1) q))
    exact post_ok q1 hs1 σ (he.mono x1.pre x1.tup)
def sRet (m : En → Sto → Rs D) : En → Sto → Rs Fl := fun E S => (m E S).bind fun d S1 => .ok (.rt d) S1
theorem ms_ret {e : Expr} {m : En → Sto → Rs D} {pos : Pos} (he : ME X W e m) : MS X W (.Return (some e) pos) (sRet m) :=
  PS.imp (ps_ret he) fun Z σ H q => by
    obtain ⟨p, S, E, hs, he, q⟩ := q
    refine lE_step hs he (post_mono (fun d S1 p1 H1 x1 hs1 q1 v rv => ?_) (post_bind (f := fun d S1 => Rs.ok (Fl.rt d) S1) q))
    exact post_ok q1 hs1 v rv
def sIf (t : En → Sto → Rs Bool) (a b : En → Sto → Rs Fl) : En → Sto → Rs Fl := fun E S => (t E S).bind fun c S1 => if c = true then a E S1 else b E S1
theorem ms_if {c : Expr} {a b : List Stmt} {t : En → Sto → Rs Bool} {na nb : En → Sto → Rs Fl} {pos : Pos} (hc : MT X W c t) (ha : MSs X W a na) (hb : MSs X W b nb) : MS X W (.If c a b pos) (sIf t na nb) :=
  PS.imp (ps_if hc ha hb) fun Z σ H q => by
    obtain ⟨p, S, E, hs, he, q⟩ := q
    refine ⟨p, S, E, hs, he, post_mono (fun d S1 p1 H1 x1 hs1 q1 => ?_) (post_bind q)⟩
    cases d with
    | true => exact ⟨p1, S1, E, hs1, he.mono x1.pre x1.tup, q1⟩
    | false => exact ⟨p1, S1, E, hs1, he.mono x1.pre x1.tup, q1⟩
def sAug (i : Nat) (m : En → Sto → Rs D) (f : D → D → Sto → Rs D) : En → Sto → Rs Fl := fun E S => (mV i E S).bind fun x _ => (m E S).bind fun y S1 => (f x y S1).bind fun z S2 => .ok (.nx (E.set i (some z))) S2
theorem ms_aug {i : Nat} {x : Str} {e : Expr} {m : En → Sto → Rs D} {op : Operator} {r : R2} {f : D → D → Sto → Rs D} {pos pos' : Pos} (hp : Prim2 (gX X) W r f) (hN : X.N.Nodup) (hi : X.N[i]? = some x) (hx : Loc X.env.scope x) (he : ME X W e m) (ho : OpR X (inplaceOp op) r) (hf : X.fn x = true ∨ X.env.scope.names.lookup x = some .local := by first | exact .inl rfl | exact .inr rfl | assumption) :
    MS X W (.AugAssign (.Name x pos') op e pos) (sAug i m f) :=
  PS.imp (ps_aug (ti := r) hN hi hx he ho hf) fun Z σ H q => by
    obtain ⟨p, S, E, hs, he, q⟩ := q
    unfold sAug mV at q
    split at q
    · rename_i d hd
      obtain ⟨v, e, rv⟩ := he.get i d hd
      refine ⟨v, e, lE_step hs he (post_mono (fun y S1 p1 H1 x1 hs1 q1 u ru => ?_) (post_bind q))⟩
      refine hp p1 S1 H1 d y v u _ hs1 (rv.mono x1.pre x1.tup) ru (post_mono (fun z S2 p2 H2 x2 hs2 q2 w rw' => ?_) (post_bind q1))
      exact post_ok q2 hs2 _ (((he.mono x1.pre x1.tup).mono x2.pre x2.tup).set rw')
    · exact q.elim
def sBrk : En → Sto → Rs Fl := fun E S => .ok (.bk E) S
def sCnt : En → Sto → Rs Fl := fun E S => .ok (.ct E) S
theorem ms_pass {pos : Pos} : MS X W (.Pass pos) sNil := PS.imp ps_pass fun Z σ H q => by
  obtain ⟨p, S, E, hs, he, q⟩ := q
  exact post_ok q hs σ he
theorem ms_break {pos : Pos} : MS X W (.Break pos) sBrk := PS.imp ps_break fun Z σ H q => by
  obtain ⟨p, S, E, hs, he, q⟩ := q
  exact post_ok q hs σ he
theorem ms_continue {pos : Pos} : MS X W (.Continue pos) sCnt := PS.imp ps_continue fun Z σ H q => by
  obtain ⟨p, S, E, hs, he, q⟩ := q
  exact post_ok q hs σ he
/-- what is not read -/
def sBad : En → Sto → Rs Fl := fun _ _ => .bad
theorem ms_bad {st : Stmt} : MS X W st sBad := PS.imp ps_never fun Z σ H q => by
  obtain ⟨p, S, E, hs, he, q⟩ := q
  exact q
end
end M

namespace M
open PySem L2
/-! ### dicts by tuples, walked -/
def Itn (P : Program) (w : World) (d : Addr) (o : Obj) (xs : List (NestedKey × Addr × V)) : It where
  go := fun i H => H d = some (.frz o (DictN P w d xs)) ∧ i < xs.length
  yld := fun i H x H' => H' = H ∧ ∃ y, xs[i]? = some y ∧ x = .ref y.2.1
  stop := fun i H => H d = some (.frz o (DictN P w d xs)) ∧ xs.length ≤ i
section
variable {X : Cx} {pins : List (Addr × Obj)} {σ : St} {H : Hp} {s : Shared} {d : Addr} {o : Obj}
theorem pair_at {α β : Type} {G : α → β → Prop} : ∀ {l : List α} {m : List β}, Paired G l m → ∀ {i : Nat} {a : α}, l[i]? = some a → ∃ b, m[i]? = some b ∧ G a b := by
  intro l m h
  induction h with
  | nil => intro i a e; simp at e
  | cons r t ih =>
    intro i a e
    cases i with
    | zero => simp at e; subst e; exact ⟨_, rfl, r⟩
    | succ j => simp at e ⊢; exact ih e
theorem pair_len {α β : Type} {G : α → β → Prop} {l : List α} {m : List β} (h : Paired G l m) : l.length = m.length := by
  induction h with
  | nil => rfl
  | cons r t ih => simp [ih]
/-- what stands at a dict by tuples -/
structure RawN (P : Program) (w : World) (d : Addr) (xs : List (NestedKey × Addr × V)) (h : Heap) (o : Obj) (es : Array DictEntry) (ep : Nat) : Prop where
  sm : (d == sysModules) = false
  at' : h.get? d = some o
  ex : o.ExactDict
  dt : o.data = .dict es ep
  sz : es.size = xs.length
  le : xs.length ≤ sizeLine
  en : ∀ (i : Nat) y, xs[i]? = some y → ∃ en, es[i]? = some en ∧ en.key = .ref y.2.1 ∧ RelV y.2.2 en.val
theorem dictN_raw {P : Program} {w : World} {xs : List (NestedKey × Addr × V)} {h : Heap} (x : ObjOk P w H h d (DictN P w d xs)) : ∃ o es ep, RawN P w d xs h o es ep := by
  obtain ⟨⟨l, sm, dp, nd, ys, o, es, ep, pr, g, ex, dt, el⟩, _⟩ := x
  refine ⟨o, es, ep, sm, g, ex, dt, ?_, l, fun i y e => ?_⟩
  · rw [pair_len pr, ← Array.length_toList, el, List.length_map]
  · obtain ⟨b, hb, e1, e2, e3⟩ := pair_at pr e
    refine ⟨entryOfKey (nestedKind P w) b, ?_, ?_, e3⟩
    · rw [← Array.getElem?_toList, el, List.getElem?_map, hb]; rfl
    · show Value.ref b.2.1 = _
      rw [e2]
theorem frzN {xs : List (NestedKey × Addr × V)} (I : Inv X pins σ H s) (h : H d = some (.frz o (DictN X.prog X.w d xs))) : ∃ es ep, RawN X.prog X.w d xs s.heap o es ep := by
  obtain ⟨hd, x⟩ := I.hok d _ h
  obtain ⟨o', es, ep, r⟩ := dictN_raw x
  have e := r.at'
  rw [hd] at e
  cases e
  exact ⟨es, ep, r⟩
end
theorem turnN {P : Program} {w : World} {K : PySem.W.Frag} {tg : Expr} {d : Addr} {o : Obj} {es : Array DictEntry} {ep : Nat} {xs : List (NestedKey × Addr × V)} (it : Addr) (hod : o.data = .dict es ep) :
    Turn P w K tg (Itn P w d o xs) [it] it (fun i h => h.IsKeyIter it d i xs.length ep) where
  mem := List.mem_singleton.mpr rfl
  obj := fun i h st b hb => by
    cases List.mem_singleton.mp hb
    obtain ⟨oi, e, c, dd⟩ := st
    exact ⟨oi, e, fun v z => by rw [dd] at z; cases z⟩
  keep := fun i h h' st k => st.at fun oi e => k it (List.mem_singleton.mpr rfl) oi e
  item := fun {X} hP hw hK hc i pins s σ H E I hf st hg => by
    cases hP; cases hw; cases hK
    obtain ⟨f0, f1, f2, f3, f4, f5⟩ := hf it (List.mem_singleton.mpr rfl)
    obtain ⟨es', ep', r⟩ := frzN I hg.1
    have ee := r.dt
    rw [hod] at ee
    cases ee
    have hi : i < xs.length := hg.2
    have hkv : xs[i]? = some xs[i] := List.getElem?_eq_getElem hg.2
    obtain ⟨en, hen, hkey, _⟩ := r.en i _ hkv
    refine next_key_item st r.at' r.dt r.sz hen fun h' st' sb => ?_
    have I1 : Inv X pins σ H { s with heap := h' } := I.turned (t' := s.toks) (fun b ob hb e => (sb.2 b hb).trans e) f0 f1 f3 f4 f5
    obtain ⟨oi, e, c, dd⟩ := id st'
    refine ⟨en.key, rfl, go_of (s := { s with heap := h' }) e c dd (by decide) ⟨.ref (xs[i]).2.1, H, I1, hkey, ⟨rfl, _, hkv, rfl⟩, st', fun b hb => (hf b hb).1⟩⟩
  done := fun {X} hP hw hK hc i pins s σ H E I hf st hg => by
    cases hP; cases hw; cases hK
    obtain ⟨f0, f1, f2, f3, f4, f5⟩ := hf it (List.mem_singleton.mpr rfl)
    obtain ⟨es', ep', r⟩ := frzN I hg.1
    have ee := r.dt
    rw [hod] at ee
    cases ee
    exact next_key_end (I.ok.hd hc) st r.at' r.dt r.sz hg.2 fun h' eb => ⟨rfl, I.turned (t' := s.toks) (fun b ob hb e => eb b ob hb e) f0 f1 f3 f4 f5⟩
  self := fun A i s Q E st h => wpAny_pyIter_keyiter st h
theorem walkN {P : Program} {w : World} {d : Addr} {o : Obj} {xs : List (NestedKey × Addr × V)} : Walk (Itn P w d o xs) xs.length (fun H => H d = some (.frz o (DictN P w d xs))) (fun i H x H' => H' = H ∧ ∃ y, xs[i]? = some y ∧ x = .ref y.2.1) :=
  ⟨fun _ _ hi q => ⟨q, hi⟩, fun _ q => ⟨q, Nat.le_refl _⟩, fun _ _ _ _ _ _ y => y⟩
end M

namespace M
open PySem L2

/-! ### what is walked -/
/-- the items; what must stand while they are walked; the place of a dict that is locked for it -/
structure AI where
  items : List D
  g : Sto → Prop
  lk : Option Nat
structure WD (X : Cx) (p : List Addr) (H : Hp) (J : It) (ai : AI) : Prop where
  go : ∀ i q S H', Ext (gX X) p H q H' → RS (gX X) q S H' → ai.g S → i < ai.items.length → J.go i H'
  stop : ∀ q S H', Ext (gX X) p H q H' → RS (gX X) q S H' → ai.g S → J.stop ai.items.length H'
  yld : ∀ (i : Nat) q S H' x H2 d, Ext (gX X) p H q H' → RS (gX X) q S H' → ai.g S → ai.items[i]? = some d → J.yld i H' x H2 → Ext (gX X) q H' q H2 ∧ RS (gX X) q S H2 ∧ RD (gX X) q H2 d x
/-- the lock ahead of the walk -/
inductive Lk (X : Cx) (p : List Addr) (H : Hp) (S : Sto) : Option Nat → Hp → Sto → Prop where
  | none : Lk X p H S none H S
  | some {n : Nat} {a : Addr} {od : Obj} {ws : List (Key × V)} {kvs : List (Key × D)} : p[n]? = some a → H a = some (.dK ws) → (∀ o' u', X.H_0 a ≠ some (.frz o' u')) → S[n]? = some (.dk kvs) → RKs (gX X) p H kvs ws → Lk X p H S (some n) (upd H a (.frz od (.dK ws))) (S.set n (.fd kvs))
  | tup {n : Nat} {a : Addr} {od : Obj} {ws : List (NestedKey × Addr × V)} {kvs : List (NestedKey × D)} : p[n]? = some a → H a = some (DictN X.prog X.w a ws) → (∀ o' u', X.H_0 a ≠ some (.frz o' u')) → S[n]? = some (.dn kvs) → RNs (gX X) p H kvs ws → Lk X p H S (some n) (upd H a (.frz od (DictN X.prog X.w a ws))) (S.set n (.fn kvs))
def lockS (lk : Option Nat) (S : Sto) : Sto := match lk with
  | none => S
  | some n => match S[n]? with
    | some (.dk kvs) => S.set n (.fd kvs)
    | some (.dn kvs) => S.set n (.fn kvs)
    | _ => S
def unl {α : Type} (lk : Option Nat) (a : α) (S : Sto) : Rs α := match lk with
  | none => .ok a S
  | some n => match S[n]? with
    | some (.fd kvs) => .ok a (S.set n (.dk kvs))
    | some (.fn kvs) => .ok a (S.set n (.dn kvs))
    | _ => .bad
def lI (X : Cx) (W : XW) (m : En → Sto → Rs AI) : TI := fun σ H R => ∃ p S E, RS (gX X) p S H ∧ RE (gX X) p H E σ ∧ post (gX X) W p H (m E S) fun ai S' p' H' => ∀ J H2, Lk X p' H' S' ai.lk H2 (lockS ai.lk S') → WD X p' H2 J ai → R J H2
abbrev MI (X : Cx) (W : XW) (tg iter : Expr) (m : En → Sto → Rs AI) : Prop := PI X tg iter (lI X W m)

section
variable {X : Cx} {W : XW}
/-- a walk of HandS, read over data: the items stand as the walk tells -/
theorem wd_walk {p : List Addr} {H : Hp} {J : It} {ai : AI} {n : Nat} {G : Hp → Prop} {Y : Nat → Hp → V → Hp → Prop} (w : Walk J n G Y) (hn : ai.items.length = n)
    (hg : ∀ q S H', Ext (gX X) p H q H' → RS (gX X) q S H' → ai.g S → G H')
    (hy : ∀ (i : Nat) q S H' x H2 d, Ext (gX X) p H q H' → RS (gX X) q S H' → ai.g S → ai.items[i]? = some d → Y i H' x H2 → Ext (gX X) q H' q H2 ∧ RS (gX X) q S H2 ∧ RD (gX X) q H2 d x) : WD X p H J ai where
  go := fun i q S H' e r g hi => w.goes i H' (by omega) (hg q S H' e r g)
  stop := fun q S H' e r g => by rw [hn]; exact w.stops H' (hg q S H' e r g)
  yld := fun i q S H' x H2 d e r g hd y => hy i q S H' x H2 d e r g hd (w.yields i H' x H2 (by rw [← hn]; exact (List.getElem?_eq_some_iff.mp hd).1) (hg q S H' e r g) y)
theorem same_y {q : List Addr} {S : Sto} {H' H2 : Hp} {x : V} {d : D} (e : H2 = H') (r : RS (gX X) q S H') (rd : RD (gX X) q H' d x) : Ext (gX X) q H' q H2 ∧ RS (gX X) q S H2 ∧ RD (gX X) q H2 d x := by
  subst e
  exact ⟨Ext.refl _ _, r, rd⟩

/-! ### any one thing walked: a tuple, a list, a text, a dict -/
def iAny (X : Cx) (te : TE) : TI := fun σ H R => te σ H fun x H1 =>
  (∃ a, x = .ref a ∧ (∃ xs, SqL X.K H1 a xs) ∧ R (Itl X.K a) H1) ∨ (∃ a, x = .ref a ∧ (∃ xs, SqT X.K H1 a xs) ∧ R (Itt X.K a) H1) ∨ (∃ z, x = .str z ∧ R (Its z) H1) ∨
  (∃ d kvs, x = .ref d ∧ H1 d = some (.dK kvs) ∧ ∀ od, (∀ o u, X.H_0 d ≠ some (.frz o u)) → R (Itk d od kvs) (upd H1 d (.frz od (.dK kvs)))) ∨ (∃ d o kvs, x = .ref d ∧ H1 d = some (.frz o (.dK kvs)) ∧ R (Itk d o kvs) H1) ∨
  (∃ d ws, x = .ref d ∧ H1 d = some (DictN X.prog X.w d ws) ∧ ∀ od, (∀ o u, X.H_0 d ≠ some (.frz o u)) → R (Itn X.prog X.w d od ws) (upd H1 d (.frz od (DictN X.prog X.w d ws)))) ∨ (∃ d o ws, x = .ref d ∧ H1 d = some (.frz o (DictN X.prog X.w d ws)) ∧ R (Itn X.prog X.w d o ws) H1)
theorem pi_any {tg e : Expr} {te : TE} (he : PE X e te) : PI X tg e (iAny X te) := by
  refine ⟨fun pins s σ H R I h => ?_⟩
  refine thn (he.run pins s σ H _ I h) fun v s1 ⟨x, H1, I1, r1, q1⟩ => ?_
  have fp : ∀ b, b ∈ [s1.heap.objs.size] → FpOk X pins H1 b := fun b hb => by
    have e : b = s1.heap.objs.size := by simpa using hb
    subst e
    exact I1.fpOk (Nat.le_refl _) (I1.hok.fresh (Nat.le_refl _))
  rcases q1 with ⟨a, rfl, ⟨xs, hq⟩, q⟩ | ⟨a, rfl, ⟨xs, hq⟩, q⟩ | ⟨z, rfl, q⟩ | ⟨d, kvs, rfl, hd, q⟩ | ⟨d, o, kvs, rfl, hd, q⟩ | ⟨d, ws, rfl, hd, q⟩ | ⟨d, o, ws, rfl, hd, q⟩
  · cases r1
    obtain ⟨its, rv, p, hz⟩ := I1.list hq
    refine wpAny_pyIter_list p.isList ?_
    exact ⟨s1.heap.objs.size, [s1.heap.objs.size], _, _, H1, rfl, I1.kept (t' := s1.toks) fun b o e => Heap.get?_push_of_some _ e, turn_list a _, ⟨_, Heap.get?_push_size _ rfl, rfl, rfl⟩, fp, q⟩
  · cases r1
    obtain ⟨its, rv, p, hz⟩ := I1.tuple hq
    refine wpAny_pyIter_tuple (show s1.heap.IsTuple a its.toArray from p) ?_
    exact ⟨s1.heap.objs.size, [s1.heap.objs.size], _, _, H1, rfl, I1.kept (t' := s1.toks) fun b o e => Heap.get?_push_of_some _ e, turn_tuple a _, ⟨_, Heap.get?_push_size _ rfl, rfl, rfl⟩, fp, q⟩
  · obtain ⟨t, rfl⟩ := r1
    cases ha : z.cps.all (· < 128)
    · exact wpAny_pyIter_wide ha (pi_one (tk := s1.toks) I1 _ (turn_str _ z t "str_iterator" (.inr rfl)) ⟨_, Heap.get?_push_size _ rfl, rfl, rfl⟩ q)
    · exact wpAny_pyIter_ascii ha (pi_one (tk := s1.toks) I1 _ (turn_str _ z t "str_ascii_iterator" (.inl rfl)) ⟨_, Heap.get?_push_size _ rfl, rfl, rfl⟩ q)
  · obtain rfl : v = Value.ref d := r1
    obtain ⟨od, I2⟩ := I1.lock hd True.intro
    have hd2 : upd H1 d (.frz od (.dK kvs)) d = some (.frz od (.dK kvs)) := upd_same
    obtain ⟨hs, hgd, hx, es, ep, vs, hdt, hsz, kv, hm⟩ := I2.frzK hd2
    refine iter_keys hs hgd hx hdt (pi_one (tk := s1.toks) I2 _ (turn_keys _ hdt) ⟨_, Heap.get?_push_size _ rfl, rfl, ?_⟩ (q od (I1.nofrz hd True.intro)))
    rw [hsz] <;> rfl
  · obtain rfl : v = Value.ref d := r1
    obtain ⟨hs, hgd, hx, es, ep, vs, hdt, hsz, kv, hm⟩ := I1.frzK hd
    refine iter_keys hs hgd hx hdt (pi_one (tk := s1.toks) I1 _ (turn_keys _ hdt) ⟨_, Heap.get?_push_size _ rfl, rfl, ?_⟩ q)
    rw [hsz] <;> rfl
  · obtain rfl : v = Value.ref d := r1
    obtain ⟨od, I2⟩ := I1.lock hd True.intro
    obtain ⟨es, ep, r⟩ := frzN I2 upd_same
    refine iter_keys r.sm r.at' r.ex r.dt (pi_one (tk := s1.toks) I2 _ (turnN _ r.dt) ⟨_, Heap.get?_push_size _ rfl, rfl, ?_⟩ (q od (I1.nofrz hd True.intro)))
    rw [r.sz] <;> rfl
  · obtain rfl : v = Value.ref d := r1
    obtain ⟨es, ep, r⟩ := frzN I1 hd
    refine iter_keys r.sm r.at' r.ex r.dt (pi_one (tk := s1.toks) I1 _ (turnN _ r.dt) ⟨_, Heap.get?_push_size _ rfl, rfl, ?_⟩ q)
    rw [r.sz] <;> rfl
def kD : Key → D
  | .inl i => .int i
  | .inr x => .str x
theorem RD_key {K : KX} {p : List Addr} {H : Hp} (k : Key) : RD K p H (kD k) (kV k) := by cases k <;> rfl
/-- what is walked of a datum -/
def aiOf (d : D) (S : Sto) : Rs AI := match d with
  | .tup ds => .ok ⟨ds, fun _ => True, none⟩ S
  | .str x => .ok ⟨x.cps.toList.map fun c => .str ⟨#[c]⟩, fun _ => True, none⟩ S
  | .rl ns => .ok ⟨ns.map .int, fun _ => True, none⟩ S
  | .ref n => match S[n]? with
    | some (.lst ds) => .ok ⟨ds, fun S => S[n]? = some (.lst ds), none⟩ S
    | some (.dk kvs) => .ok ⟨kvs.map fun kv => kD kv.1, fun S => S[n]? = some (.fd kvs), some n⟩ S
    | some (.fd kvs) => .ok ⟨kvs.map fun kv => kD kv.1, fun S => S[n]? = some (.fd kvs), none⟩ S
    | some (.dn kvs) => .ok ⟨kvs.map fun kv => nkD kv.1, fun S => S[n]? = some (.fn kvs), some n⟩ S
    | some (.fn kvs) => .ok ⟨kvs.map fun kv => nkD kv.1, fun S => S[n]? = some (.fn kvs), none⟩ S
    | _ => .bad
  | _ => .bad
def iA (m : En → Sto → Rs D) : En → Sto → Rs AI := fun E S => (m E S).bind aiOf
theorem mem_of_get {p : List Addr} {n : Nat} {a : Addr} (h : p[n]? = some a) : a ∈ p := List.mem_of_getElem? h
theorem key_get {K : KX} {p : List Addr} {H : Hp} {kvs : List (Key × D)} {ws : List (Key × V)} (h : RKs K p H kvs ws) {i : Nat} {k : Key} {v : V} (e : ws[i]? = some (k, v)) : ∃ d, kvs[i]? = some (k, d) ∧ RD K p H d v := by
  have e1 : (ws.map (·.1))[i]? = some k := by rw [List.getElem?_map, e]; rfl
  have e2 : (ws.map (·.2))[i]? = some v := by rw [List.getElem?_map, e]; rfl
  rw [← h.1, List.getElem?_map] at e1
  obtain ⟨d, e3, r⟩ := h.2.get' e2
  rw [List.getElem?_map] at e3
  cases hq : kvs[i]? with
  | none => rw [hq] at e1; cases e1
  | some kv =>
    rw [hq] at e1 e3
    obtain ⟨k', d'⟩ := kv
    simp at e1 e3
    subst e1; subst e3
    exact ⟨d', rfl, r⟩
theorem RKs.length {K : KX} {p : List Addr} {H : Hp} {kvs : List (Key × D)} {ws : List (Key × V)} (h : RKs K p H kvs ws) : kvs.length = ws.length := by simpa using congrArg List.length h.1
/-- the dict at d locked: its keys -/
theorem wd_keys {p : List Addr} {H : Hp} {n : Nat} {d : Addr} {od : Obj} {kvs : List (Key × D)} {ws : List (Key × V)} {lk : Option Nat} (ea : p[n]? = some d) (hd : H d = some (.frz od (.dK ws))) (rk : RKs (gX X) p H kvs ws)
    (hob : ∀ q S H', Ext (gX X) p H q H' → RS (gX X) q S H' → S[n]? = some (.fd kvs) → H' d = some (.frz od (.dK ws))) :
    WD X p H (Itk d od ws) ⟨kvs.map fun kv => kD kv.1, fun S => S[n]? = some (.fd kvs), lk⟩ := by
  refine wd_walk walk_keys (by rw [List.length_map]; exact rk.length) (fun q S H' e r g => hob q S H' e r g) fun i q S H' x H2 dd e r g hi y => ?_
  obtain ⟨e2, k, v, hk, rfl⟩ := y
  refine same_y e2 r ?_
  obtain ⟨d', hk', _⟩ := key_get rk hk
  rw [List.getElem?_map, hk'] at hi
  simp at hi
  subst hi
  exact RD_key k
theorem wd_keysN {p : List Addr} {H : Hp} {n : Nat} {d : Addr} {od : Obj} {kvs : List (NestedKey × D)} {ws : List (NestedKey × Addr × V)} {lk : Option Nat} (rk : RNs (gX X) p H kvs ws)
    (hob : ∀ q S H', Ext (gX X) p H q H' → RS (gX X) q S H' → S[n]? = some (.fn kvs) → H' d = some (.frz od (DictN X.prog X.w d ws))) :
    WD X p H (Itn X.prog X.w d od ws) ⟨kvs.map fun kv => nkD kv.1, fun S => S[n]? = some (.fn kvs), lk⟩ := by
  have hl : kvs.length = ws.length := by simpa using congrArg List.length rk.1
  refine wd_walk walkN (by rw [List.length_map]; exact hl) (fun q S H' e r g => hob q S H' e r g) fun i q S H' x H2 dd e r g hi y => ?_
  obtain ⟨e2, y, hy, rfl⟩ := y
  refine same_y e2 r ?_
  obtain ⟨v, hv, rv⟩ := (rk.2.2.mono e.pre e.tup).get hi
  rw [List.getElem?_map, hy] at hv
  cases hv
  exact rv
theorem ai_read {p : List Addr} {S : Sto} {H : Hp} {d : D} {v : V} {R : It → Hp → Prop} (hs : RS (gX X) p S H) (r : RD (gX X) p H d v) (q : post (gX X) W p H (aiOf d S) fun ai S' p' H' => ∀ J H2, Lk X p' H' S' ai.lk H2 (lockS ai.lk S') → WD X p' H2 J ai → R J H2) :
    (∃ a, v = .ref a ∧ (∃ xs, SqL X.K H a xs) ∧ R (Itl X.K a) H) ∨ (∃ a, v = .ref a ∧ (∃ xs, SqT X.K H a xs) ∧ R (Itt X.K a) H) ∨ (∃ z, v = .str z ∧ R (Its z) H) ∨
    (∃ d kvs, v = .ref d ∧ H d = some (.dK kvs) ∧ ∀ od, (∀ o u, X.H_0 d ≠ some (.frz o u)) → R (Itk d od kvs) (upd H d (.frz od (.dK kvs)))) ∨ (∃ d o kvs, v = .ref d ∧ H d = some (.frz o (.dK kvs)) ∧ R (Itk d o kvs) H) ∨
    (∃ d ws, v = .ref d ∧ H d = some (DictN X.prog X.w d ws) ∧ ∀ od, (∀ o u, X.H_0 d ≠ some (.frz o u)) → R (Itn X.prog X.w d od ws) (upd H d (.frz od (DictN X.prog X.w d ws)))) ∨ (∃ d o ws, v = .ref d ∧ H d = some (.frz o (DictN X.prog X.w d ws)) ∧ R (Itn X.prog X.w d o ws) H) := by
  unfold aiOf at q
  cases d with
  | non => exact q.elim
  | bl b => exact q.elim
  | int i => exact q.elim
  | raw u => exact q.elim
  | rl ns =>
    obtain ⟨a, rfl, e⟩ := r
    refine .inl ⟨a, rfl, ⟨_, e.sq⟩, post_ok q hs _ _ .none (wd_walk walk_list (by simp) (fun q S H' e' r g => (e'.tup.rdl _ _ e).sq) fun i q S H' y H2 dd e r g hi yy => ?_)⟩
    obtain ⟨e2, hx⟩ := yy
    refine same_y e2 r ?_
    rw [List.getElem?_map] at hi hx
    cases hq : ns[i]? with
    | none => rw [hq] at hi; cases hi
    | some z => rw [hq] at hi hx; cases hi; cases hx; rfl
  | str x =>
    obtain rfl : v = V.str x := r
    refine .inr (.inr (.inl ⟨x, rfl, post_ok q hs _ _ .none (wd_walk walk_str (by simp) (fun _ _ _ _ _ _ => trivial) fun i q S H' y H2 dd e r g hi yy => ?_)⟩))
    obtain ⟨e2, c, hc, rfl⟩ := yy
    refine same_y e2 r ?_
    rw [List.getElem?_map] at hi
    rw [← Array.getElem?_toList] at hc
    rw [hc] at hi
    simp at hi
    subst hi
    rfl
  | tup ds =>
    obtain ⟨a, vs, rfl, e, rs⟩ := r
    refine .inr (.inl ⟨a, rfl, ⟨vs, e⟩, post_ok q hs _ _ .none (wd_walk walk_tup rs.length (fun q S H' e' r g => e'.tup.tup _ _ e) fun i q S H' y H2 dd e r g hi yy => ?_)⟩)
    obtain ⟨e2, hx⟩ := yy
    refine same_y e2 r ?_
    obtain ⟨v', hv, rv⟩ := (rs.mono e.pre e.tup).get hi
    rw [hx] at hv; cases hv
    exact rv
  | ref n =>
    obtain ⟨a, ea, rfl⟩ := r
    simp only at q
    split at q
    · rename_i ds hd
      obtain ⟨x, ex, vs, rfl, rs⟩ := hs.get n a _ ea hd
      have lst : ∀ q S H', Ext (gX X) p H q H' → RS (gX X) q S H' → S[n]? = some (.lst ds) → ∃ us, H' a = some (.lst us) ∧ RDs (gX X) q H' ds us := fun q S H' e r g => by
        obtain ⟨x, ex, us, rfl, rs⟩ := r.get n a _ (e.pre.get ea) g
        exact ⟨us, ex, rs⟩
      refine .inl ⟨a, rfl, ⟨vs, .of ex⟩, post_ok q hs _ _ .none ⟨fun i q S H' e r g hi => ?_, fun q S H' e r g => ?_, fun i q S H' y H2 dd e r g hi yy => ?_⟩⟩
      · obtain ⟨us, eu, ru⟩ := lst q S H' e r g
        have hi' : i < us.length := by rw [← ru.length]; exact hi
        exact ⟨us, us[i], .of eu, by simp [hi']⟩
      · obtain ⟨us, eu, ru⟩ := lst q S H' e r g
        exact ⟨us, .of eu, by rw [← ru.length]; exact Nat.le_refl _⟩
      · obtain ⟨us, eu, ru⟩ := lst q S H' e r g
        obtain ⟨e2, hx⟩ := yy
        refine same_y e2 r ?_
        obtain ⟨v', hv, rv⟩ := ru.get hi
        have := hx us (.of eu)
        rw [this] at hv; cases hv
        exact rv
    · rename_i kvs hd
      obtain ⟨x, ex, ws, rfl, rk⟩ := hs.get n a _ ea hd
      refine .inr (.inr (.inr (.inl ⟨a, ws, rfl, ex, fun od hno => ?_⟩)))
      have e0 : Ext (gX X) p H p (upd H a (.frz od (.dK ws))) := Ext.set (mem_of_get ea) ex (.inl rfl) (fun _ _ z => by cases z)
      have el : lockS (some n) S = S.set n (.fd kvs) := by simp only [lockS, hd]
      refine post_ok q hs _ _ (by rw [el]; exact .some ea ex hno hd rk) (wd_keys ea upd_same (rk.mono e0.pre e0.tup) fun q S H' e r g => e.frz _ _ _ upd_same)
    · rename_i kvs hd
      obtain ⟨x, ex, ob, ws, rfl, rk⟩ := hs.get n a _ ea hd
      exact .inr (.inr (.inr (.inr (.inl ⟨a, ob, ws, rfl, ex, post_ok q hs _ _ .none (wd_keys ea ex rk fun q S H' e r g => e.frz _ _ _ ex)⟩))))
    · rename_i kvs hd
      obtain ⟨x, ex, ws, rfl, rk⟩ := hs.get n a _ ea hd
      refine .inr (.inr (.inr (.inr (.inr (.inl ⟨a, ws, rfl, ex, fun od hno => ?_⟩)))))
      have e0 : Ext (gX X) p H p (upd H a (.frz od (DictN X.prog X.w a ws))) := Ext.set (mem_of_get ea) ex (.inr (.inl ⟨_, _, _, _, rfl⟩)) (fun _ _ z => by cases z)
      have el : lockS (some n) S = S.set n (.fn kvs) := by simp only [lockS, hd]
      refine post_ok q hs _ _ (by rw [el]; exact .tup ea ex hno hd rk) (wd_keysN (rk.mono e0.pre e0.tup) fun q S H' e r g => e.frz _ _ _ upd_same)
    · rename_i kvs hd
      obtain ⟨x, ex, ob, ws, rfl, rk⟩ := hs.get n a _ ea hd
      exact .inr (.inr (.inr (.inr (.inr (.inr ⟨a, ob, ws, rfl, ex, post_ok q hs _ _ .none (wd_keysN rk fun q S H' e r g => e.frz _ _ _ ex)⟩)))))
    · exact q.elim
theorem mi_any {tg e : Expr} {m : En → Sto → Rs D} (he : ME X W e m) : MI X W tg e (iA m) :=
  PI.imp (pi_any he) fun σ H R q => by
    obtain ⟨p, S, E, hs, he, q⟩ := q
    exact lE_step hs he (post_mono (fun d S1 p1 H1 x1 hs1 q1 v rv => ai_read hs1 rv q1) (post_bind q))
end
end M

namespace M
open PySem L2

section
variable {X : Cx} {W : XW}
theorem Lk.ext {p : List Addr} {H H2 : Hp} {S S2 : Sto} {lk : Option Nat} (l : Lk X p H S lk H2 S2) : Ext (gX X) p H p H2 := by
  cases l with
  | none => exact Ext.refl _ _
  | some e1 e2 e3 e4 e5 => exact Ext.set (mem_of_get e1) e2 (.inl rfl) (fun _ _ z => by cases z)
  | tup e1 e2 e3 e4 e5 => exact Ext.set (mem_of_get e1) e2 (.inr (.inl ⟨_, _, _, _, rfl⟩)) (fun _ _ z => by cases z)
theorem Lk.rs {p : List Addr} {H H2 : Hp} {S S2 : Sto} {lk : Option Nat} (l : Lk X p H S lk H2 S2) (hs : RS (gX X) p S H) : RS (gX X) p S2 H2 := by
  cases l with
  | none => exact hs
  | some e1 e2 e3 e4 e5 => exact hs.set e1 e4 e2 (.inl rfl) ⟨_, _, rfl, e5⟩
  | tup e1 e2 e3 e4 e5 => exact hs.set e1 e4 e2 (.inr (.inl ⟨_, _, _, _, rfl⟩)) ⟨_, _, rfl, e5⟩
/-- the lock's end -/
inductive Un (X : Cx) (H' : Hp) : Hp → Prop where
  | none : Un X H' H'
  | some {a : Addr} {ob : Obj} {u : HO} : H' a = some (.frz ob u) → (∀ o' u', X.H_0 a ≠ some (.frz o' u')) → Un X H' (upd H' a u)
theorem unl_read {α : Type} {p q : List Addr} {H H2 H3 : Hp} {S S2 S3 : Sto} {lk : Option Nat} {x : α} {k : α → Sto → List Addr → Hp → Prop} (l : Lk X p H S lk H2 S2) (e : Ext (gX X) p H2 q H3) (hs : RS (gX X) q S3 H3)
    (h : post (gX X) W p H (unl lk x S3) k) : ∃ H4 S4, Un X H3 H4 ∧ Ext (gX X) p H q H4 ∧ RS (gX X) q S4 H4 ∧ Keep (gX X) H3 H4 ∧ k x S4 q H4 := by
  have e0 := l.ext
  cases l with
  | none => exact ⟨H3, S3, .none, e, hs, Keep.refl _, h q H3 e hs⟩
  | @some n a od ws kvs e1 e2 e3 e4 e5 =>
    unfold unl at h
    simp only at h
    split at h
    · rename_i kvs' ho'
      have hf : H3 a = some (.frz od (.dK ws)) := e.frz _ _ _ upd_same
      obtain ⟨y, ey, ob', ws', rfl, ro⟩ := hs.get n a _ (e.pre.get e1) ho'
      rw [hf] at ey; cases ey
      have hx : Ext (gX X) p H q (upd H3 a (.dK ws)) := Ext.unlock (e0.trans e) (mem_of_get e1) e2 (.inl rfl) hf (.inl rfl)
      have hr : RS (gX X) q (S3.set n (.dk kvs')) (upd H3 a (.dK ws)) := hs.set (e.pre.get e1) ho' hf (.inl rfl) ⟨ws, rfl, ro⟩
      exact ⟨_, _, .some hf e3, hx, hr, Keep.set hf (.inl rfl), h q _ hx hr⟩
    · rename_i kvs' ho'
      have hf : H3 a = some (.frz od (.dK ws)) := e.frz _ _ _ upd_same
      obtain ⟨y, ey, ob', ws', rfl, ro⟩ := hs.get n a _ (e.pre.get e1) ho'
      rw [hf] at ey; cases ey
    · exact h.elim
  | @tup n a od ws kvs e1 e2 e3 e4 e5 =>
    unfold unl at h
    simp only at h
    split at h
    · rename_i kvs' ho'
      have hf : H3 a = some (.frz od (DictN X.prog X.w a ws)) := e.frz _ _ _ upd_same
      obtain ⟨y, ey, ob', ws', rfl, ro⟩ := hs.get n a _ (e.pre.get e1) ho'
      rw [hf] at ey; cases ey
    · rename_i kvs' ho'
      have hf : H3 a = some (.frz od (DictN X.prog X.w a ws)) := e.frz _ _ _ upd_same
      obtain ⟨y, ey, ob', ws', rfl, ro⟩ := hs.get n a _ (e.pre.get e1) ho'
      rw [hf] at ey
      have sf : Safe (.frz od (DictN X.prog X.w a ws)) := .inr (.inr ⟨_, _, _, _, _, rfl⟩)
      have ey := Option.some.inj ey
      injection ey with ey1 ey2
      have hx : Ext (gX X) p H q (upd H3 a (DictN X.prog X.w a ws)) := Ext.unlock (e0.trans e) (mem_of_get e1) e2 (.inr ⟨_, _, _, _, rfl⟩) hf sf
      have hr : RS (gX X) q (S3.set n (.dn kvs')) (upd H3 a (DictN X.prog X.w a ws)) := hs.set (e.pre.get e1) ho' hf sf ⟨ws', ey2, ro⟩
      exact ⟨_, _, .some hf e3, hx, hr, Keep.set hf sf, h q _ hx hr⟩
    · exact h.elim
def gZ (X : Cx) (Z : Ends) : Ends where
  nx := fun σ H => ∃ H4, Un X H H4 ∧ Z.nx σ H4
  rt := fun v H => ∃ H4, Un X H H4 ∧ Z.rt v H4
  bk := Z.bk
  ct := Z.ct
theorem Un.inv {pins : List (Addr × Obj)} {σ : St} {H H4 : Hp} {s : Shared} (u : Un X H H4) (I : Inv X pins σ H s) : Inv X pins σ H4 s := by
  cases u with
  | none => exact I
  | some e hn => exact I.unlock e hn
theorem ps_unl {st : Stmt} {t : TS} (h : PS X st t) : PS X st (fun Z σ H => t (gZ X Z) σ H) := by
  refine ⟨fun pins s σ H Z I hw => ?_⟩
  refine thn (h.run pins s σ H _ I hw) fun f s1 q => ?_
  cases f with
  | next => obtain ⟨σ', H', I2, H4, u, q⟩ := q; exact ⟨σ', H4, u.inv I2, q⟩
  | brk => exact q
  | cont => exact q
  | ret v => obtain ⟨x, σ', H', I2, r, H4, u, q⟩ := q; exact ⟨x, σ', H4, u.inv I2, r, q⟩
theorem pe_unl {e : Expr} {t : TE} (h : PE X e t) : PE X e (fun σ H Q => t σ H fun v H' => ∃ H4, Un X H' H4 ∧ Q v H4) := by
  refine ⟨fun pins s σ H Q I hw => ?_⟩
  refine thn (h.run pins s σ H _ I hw) fun v s1 ⟨x, H1, I1, r, H4, u, q⟩ => ⟨x, H4, u.inv I1, r, q⟩

/-! ### for -/
open Classical in
noncomputable def loop (g : Sto → Prop) (body : D → En → Sto → Rs Fl) : List D → En → Sto → Rs Fl
  | [], E, S => if g S then .ok (.nx E) S else .bad
  | d :: r, E, S => if g S then (body d E S).bind fun fl S1 => match fl with
      | .nx E1 => loop g body r E1 S1
      | .ct E1 => loop g body r E1 S1
      | .bk E1 => .ok (.nx E1) S1
      | .rt v => .ok (.rt v) S1
    else .bad
noncomputable def sFor (mi : En → Sto → Rs AI) (g : D → En → Sto → Rs En) (mb : En → Sto → Rs Fl) : En → Sto → Rs Fl := fun E S => (mi E S).bind fun ai S1 =>
  (loop ai.g (fun d E S => (g d E S).bind mb) ai.items E (lockS ai.lk S1)).bind fun fl S2 => unl ai.lk fl S2
theorem ms_for {tg iter : Expr} {body : List Stmt} {mi : En → Sto → Rs AI} {g : D → En → Sto → Rs En} {mb : En → Sto → Rs Fl} {pos : Pos} (hp : PassesOwn (model X.prog X.w) X.A X.env X.xe) (hc : X.calm = true) (hi : MI X W tg iter mi) (hg : MG X W tg g) (hb : MSs X W body mb)
    (hs : ∀ x, foldedSetIterable iter X.env x = pure x := by intro _; rfl) : MS X W (.For tg iter body [] pos) (sFor mi g mb) :=
  PS.imp (ps_unl (ps_for hp hc hi hg hb hs)) fun Z σ H q => by
    obtain ⟨p, S, E, hs, he, q⟩ := q
    refine ⟨p, S, E, hs, he, post_mono (fun ai S1 p1 H1 x1 hs1 q1 J H2 lk wd => ?_) (post_bind q)⟩
    have hs2 := lk.rs hs1
    have x2 := lk.ext
    generalize lockS ai.lk S1 = S2 at lk hs2 q1
    refine ⟨fun i m σ H => ∃ p3 S3 E3, m = ai.items.length - i ∧ i ≤ ai.items.length ∧ Ext (gX X) p1 H2 p3 H ∧ RS (gX X) p3 S3 H ∧ RE (gX X) p3 H E3 σ ∧
      post (gX X) W p1 H1 (loop ai.g (fun d E S => (g d E S).bind mb) (ai.items.drop i) E3 S3) (fun fl S' _ _ => post (gX X) W p1 H1 (unl ai.lk fl S') (kS (gX X) Z)),
      ⟨ai.items.length, p1, S2, E, by simp, Nat.zero_le _, Ext.refl _ _, hs2, (he.mono x1.pre x1.tup).mono x2.pre x2.tup, by simpa using post_bindB q1⟩, ?_⟩
    rintro i m σ3 H3 ⟨p3, S3, E3, rfl, hi, x3, hs3, he3, q3⟩
    by_cases hlt : i < ai.items.length
    · have hd : ai.items[i]? = some ai.items[i] := by simp [hlt]
      rw [List.drop_eq_getElem_cons hlt] at q3
      unfold loop at q3
      split at q3
      · rename_i hG
        refine .inr ⟨wd.go i p3 S3 H3 x3 hs3 hG hlt, fun σ H => ∃ p3 S3 E3, ai.items.length - (i + 1) = ai.items.length - (i + 1) ∧ i + 1 ≤ ai.items.length ∧ Ext (gX X) p1 H2 p3 H ∧ RS (gX X) p3 S3 H ∧ RE (gX X) p3 H E3 σ ∧
          post (gX X) W p1 H1 (loop ai.g (fun d E S => (g d E S).bind mb) (ai.items.drop (i + 1)) E3 S3) (fun fl S' _ _ => post (gX X) W p1 H1 (unl ai.lk fl S') (kS (gX X) Z)), fun σ' H' w => ⟨ai.items.length - (i + 1), ?_, w⟩, fun x H4 y => ?_⟩
        · omega
        · obtain ⟨x4, hs4, rx⟩ := wd.yld i p3 S3 H3 x H4 _ x3 hs3 hG hd y
          have x04 : Ext (gX X) p1 H1 p3 H4 := (x2.trans x3).trans x4
          refine ⟨p3, S3, E3, ai.items[i], hs4, he3.mono x4.pre x4.tup, rx, post_mono (fun E5 S5 p5 H5 x5 hs5 q5 σ5 he5 => ?_) (post_base x04 (post_bindB (post_bindB q3)))⟩
          refine ⟨p5, S5, E5, hs5, he5, post_mono (fun fl S6 p6 H6 x6 hs6 q6 => ?_) (post_base (x04.trans x5) q5)⟩
          have x36 : Ext (gX X) p1 H2 p6 H6 := ((x3.trans x4).trans x5).trans x6
          cases fl with
          | nx E6 => exact fun σ6 he6 => ⟨p6, S6, E6, rfl, hlt, x36, hs6, he6, q6⟩
          | ct E6 => exact fun σ6 he6 => ⟨p6, S6, E6, rfl, hlt, x36, hs6, he6, q6⟩
          | bk E6 =>
            obtain ⟨H7, S7, un, x7, hs7, k7, q7⟩ := unl_read lk x36 hs6 (q6 p6 H6 (x2.trans x36) hs6)
            intro σ6 he6
            exact ⟨H7, un, q7 σ6 (he6.mono (Pre.refl _) k7)⟩
          | rt v =>
            obtain ⟨H7, S7, un, x7, hs7, k7, q7⟩ := unl_read lk x36 hs6 (q6 p6 H6 (x2.trans x36) hs6)
            intro u ru
            exact ⟨H7, un, q7 u (ru.mono (Pre.refl _) k7)⟩
      · exact q3.elim
    · have hi' : i = ai.items.length := by omega
      subst hi'
      rw [List.drop_length] at q3
      unfold loop at q3
      split at q3
      · rename_i hG
        obtain ⟨H7, S7, un, x7, hs7, k7, q7⟩ := unl_read lk x3 hs3 (q3 p3 H3 (x2.trans x3) hs3)
        exact .inl ⟨wd.stop p3 S3 H3 x3 hs3 hG, H7, un, q7 σ3 (he3.mono (Pre.refl _) k7)⟩
      · exact q3.elim
end
end M

namespace M
open PySem L2

section
variable {X : Cx} {W : XW}
/-! ### while -/
def whileF (c : En → Sto → Rs Bool) (b : En → Sto → Rs Fl) : Nat → En → Sto → Rs Fl
  | 0, _, _ => .bad
  | n + 1, E, S => (c E S).bind fun t S1 => if t = true then (b E S1).bind fun fl S2 => (match fl with
      | .nx E1 => whileF c b n E1 S2
      | .ct E1 => whileF c b n E1 S2
      | .bk E1 => .ok (.nx E1) S2
      | .rt d => .ok (.rt d) S2) else .ok (.nx E) S1
theorem ms_while (n : Nat) {c : Expr} {body : List Stmt} {mc : En → Sto → Rs Bool} {mb : En → Sto → Rs Fl} {pos : Pos} (hp : PassesOwn (model X.prog X.w) X.A X.env X.xe) (hc : MT X W c mc) (hb : MSs X W body mb) : MS X W (.While c body [] pos) (whileF mc mb n) :=
  PS.imp (ps_while hp hc hb) fun Z σ H q => by
    refine ⟨fun m σ H => ∃ p S E, RS (gX X) p S H ∧ RE (gX X) p H E σ ∧ post (gX X) W p H (whileF mc mb m E S) (kS (gX X) Z), ⟨n, q⟩, ?_⟩
    rintro m σ1 H1 ⟨p, S, E, hs, he, q⟩
    cases m with
    | zero => exact q.elim
    | succ m =>
      unfold whileF at q
      refine ⟨p, S, E, hs, he, post_mono (fun t S2 p2 H2 x2 hs2 q2 => ?_) (post_bind q)⟩
      cases t with
      | true =>
        refine ⟨fun σ H => ∃ p S E, RS (gX X) p S H ∧ RE (gX X) p H E σ ∧ post (gX X) W p H (whileF mc mb m E S) (kS (gX X) Z), fun σ' H' w => ⟨m, Nat.lt_succ_self _, w⟩, p2, S2, E, hs2, he.mono x2.pre x2.tup, post_mono (fun fl S3 p3 H3 x3 hs3 q3 => ?_) (post_bind q2)⟩
        cases fl with
        | nx E3 => exact fun σ3 he3 => ⟨p3, S3, E3, hs3, he3, q3⟩
        | ct E3 => exact fun σ3 he3 => ⟨p3, S3, E3, hs3, he3, q3⟩
        | bk E3 => exact post_ok (W := W) (a := Fl.nx E3) q3 hs3
        | rt d => exact post_ok (W := W) (a := Fl.rt d) q3 hs3
      | false => exact post_ok q2 hs2 σ1 (he.mono x2.pre x2.tup)

/-! ### targets of a comprehension: its own names -/
def lGo (K : KX) (W : XW) (vs : List Nat) (g : D → En → Sto → Rs En) : TG := fun v σ H Q => ∃ p S E d, RS K p S H ∧ RE K p H E σ ∧ RD K p H d v ∧ post K W p H (g d E S) fun E' _ p' H' => ∀ σ', RE K p' H' E' σ' → wipe σ' vs = wipe σ vs → Q σ' H'
def lGos (K : KX) (W : XW) (vs : List Nat) (g : List D → En → Sto → Rs En) : TGs := fun us σ H Q => ∃ p S E ds, RS K p S H ∧ RE K p H E σ ∧ RDs K p H ds us ∧ post K W p H (g ds E S) fun E' _ p' H' => ∀ σ', RE K p' H' E' σ' → wipe σ' vs = wipe σ vs → Q σ' H'
abbrev MGo (X : Cx) (W : XW) (vs : List Nat) (tg : Expr) (g : D → En → Sto → Rs En) : Prop := PG X tg (lGo (gX X) W vs g)
abbrev MGos (X : Cx) (W : XW) (vs : List Nat) (tgs : List Expr) (g : List D → En → Sto → Rs En) : Prop := PGs X tgs (lGos (gX X) W vs g)
theorem wipe_ext {σ τ : St} {vs : List Nat} (hl : σ.length = τ.length) (h : ∀ i, i ∉ vs → σ[i]? = τ[i]?) : wipe σ vs = wipe τ vs := by
  induction vs generalizing σ τ with
  | nil =>
    show σ = τ
    exact List.ext_getElem? fun i => h i (by simp)
  | cons v vs ih =>
    show (wipe σ vs).set v none = (wipe τ vs).set v none
    refine List.ext_getElem? fun i => ?_
    by_cases hi : v = i
    · subst hi
      rw [List.getElem?_set_self', List.getElem?_set_self']
      have hl2 : (wipe σ vs).length = (wipe τ vs).length := by rw [wipe_length, wipe_length, hl]
      by_cases hv : v < (wipe σ vs).length
      · simp [hv, hl2 ▸ hv]
      · have hv2 : ¬ v < (wipe τ vs).length := hl2 ▸ hv
        rw [List.getElem?_eq_none (Nat.le_of_not_lt hv), List.getElem?_eq_none (Nat.le_of_not_lt hv2)]
    · rw [List.getElem?_set_ne hi, List.getElem?_set_ne hi]
      by_cases hm : i ∈ vs
      · have z : ∀ (ρ : St), (wipe ρ vs)[i]? = if i < ρ.length then some none else none := fun ρ => by
          clear ih h hl
          induction vs with
          | nil => cases hm
          | cons w ws ih2 =>
            show ((wipe ρ ws).set w none)[i]? = _
            by_cases hw : w = i
            · subst hw
              rw [List.getElem?_set_self']
              by_cases hv : w < ρ.length
              · rw [if_pos hv]
                have : w < (wipe ρ ws).length := by rw [wipe_length]; exact hv
                simp [this]
              · rw [if_neg hv, List.getElem?_eq_none (by rw [wipe_length]; exact Nat.le_of_not_lt hv)]
                rfl
            · rw [List.getElem?_set_ne hw]
              refine ih2 ?_
              rcases List.mem_cons.mp hm with e | e
              · exact absurd e.symm hw
              · exact e
        rw [z σ, z τ, hl]
      · rw [wipe_out hm, wipe_out hm]
        exact h i (by simp only [List.mem_cons, not_or]; exact ⟨fun e => hi e.symm, hm⟩)
theorem wipe_idem (σ : St) (vs : List Nat) : wipe (wipe σ vs) vs = wipe σ vs := wipe_ext (wipe_length _ _) fun i hi => wipe_out hi
theorem wipe_set {σ : St} {vs : List Nat} {i : Nat} {x : Option V} (h : i ∈ vs) : wipe (σ.set i x) vs = wipe σ vs :=
  wipe_ext (by simp) fun j hj => by
    have : i ≠ j := fun e => hj (e ▸ h)
    rw [List.getElem?_set_ne this]
theorem mgo_name {vs : List Nat} {i : Nat} {x : Str} {pos : Pos} (hv : i ∈ vs) (hN : X.N.Nodup) (hi : X.N[i]? = some x) (hx : Loc X.env.scope x) (hf : X.fn x = true ∨ X.env.scope.names.lookup x = some .local := by first | exact .inl rfl | exact .inr rfl | assumption) : MGo X W vs (.Name x pos) (gN i) :=
  PG.imp (pg_name hN hi hx hf) fun v σ H Q q => by
    obtain ⟨p, S, E, d, hs, he, r, q⟩ := q
    exact post_ok q hs _ (he.set r) (wipe_set hv)
theorem mgos_nil {vs : List Nat} : MGos X W vs [] gNil := PGs.imp pgs_nil fun us σ H Q q => by
  obtain ⟨p, S, E, ds, hs, he, r, q⟩ := q
  cases ds with
  | nil => exact ⟨r, post_ok q hs _ he rfl⟩
  | cons d ds => exact q.elim
theorem mgos_cons {vs : List Nat} {e : Expr} {es : List Expr} {g : D → En → Sto → Rs En} {r : List D → En → Sto → Rs En} (h1 : MGo X W vs e g) (h2 : MGos X W vs es r)
    (hs : (assignEach (e :: es) X.env).map (·.2) = assign e X.env :: (assignEach es X.env).map (·.2) := by rfl) : MGos X W vs (e :: es) (gCons g r) :=
  PGs.imp (pgs_cons h1 h2 hs) fun us σ H Q q => by
    obtain ⟨p, S, E, ds, hs, he, rr, q⟩ := q
    cases ds with
    | nil => exact q.elim
    | cons d ds =>
      obtain ⟨v, us, rfl, rv, rvs⟩ := rr
      refine ⟨v, us, rfl, p, S, E, d, hs, he, rv, post_mono (fun E1 S1 p1 H1 x1 hs1 q1 σ1 he1 w1 => ?_) (post_bind q)⟩
      exact ⟨p1, S1, E1, ds, hs1, he1, rvs.mono x1.pre x1.tup, post_mono (fun E2 S2 p2 H2 x2 hs2 q2 σ2 he2 w2 => q2 σ2 he2 (w2.trans w1)) q1⟩
theorem mgo_tup {vs : List Nat} {es : List Expr} {k : Nat} {g : List D → En → Sto → Rs En} {n : Nat} {pos : Pos} (hc : X.calm = true) (h : MGos X W vs es g)
    (hn : (assignEach es X.env).length = n := by rfl) (hst : (assignEach es X.env).findIdx? (·.1) = none := by rfl) : MGo X W vs (.Tuple es k pos) (gT n g) :=
  PG.imp (pg_tup hc h hn hst) fun v σ H Q q => by
    obtain ⟨p, S, E, d, hs, he, r, q⟩ := q
    unfold gT at q
    split at q
    · rename_i ds
      obtain ⟨a, us, rfl, e, rs⟩ := r
      split at q
      · rename_i hl
        exact ⟨a, us, rfl, e, by rw [← rs.length]; exact hl, p, S, E, ds, hs, he, rs, q⟩
      · exact q.elim
    · exact q.elim
theorem RE.wipe {K : KX} {p : List Addr} {H : Hp} {E : En} {σ : St} (vs : List Nat) (h : RE K p H E σ) : RE K p H (wipeE vs E) (L2.wipe σ vs) := by
  refine ⟨by rw [wipeE_len, wipe_length]; exact h.len, fun i d e => ?_⟩
  have hi : i ∉ vs := by
    clear h
    induction vs generalizing E with
    | nil => simp
    | cons v vs ih =>
      have e' : (wipeE vs (E.set v none))[i]? = some (some d) := e
      have h1 := ih e'
      have h2 := wipeE_get vs _ i d e'
      simp only [List.mem_cons, not_or]
      refine ⟨fun z => ?_, h1⟩
      subst z
      rw [List.getElem?_set_self'] at h2
      cases hq : E[i]? with
      | none => rw [hq] at h2; cases h2
      | some x => rw [hq] at h2; cases h2
  obtain ⟨v, e1, r⟩ := h.get i d (wipeE_get vs E i d e)
  exact ⟨v, by rw [wipe_out hi]; exact e1, r⟩

/-! ### what an error does not leave -/
def noX {α : Type} (r : Rs α) : Rs α := match r with
  | .exc _ _ _ => .bad
  | .ok a S => .ok a S
  | .bad => .bad
@[simp] theorem noX_ok {α : Type} (a : α) (S : Sto) : noX (.ok a S) = .ok a S := rfl
abbrev W0 : XW := fun _ _ _ _ _ => False
theorem post_noX {K : KX} {α : Type} {p : List Addr} {H : Hp} {r : Rs α} {k : α → Sto → List Addr → Hp → Prop} (h : post K W p H (noX r) k) : post K W0 p H r k := by
  cases r with
  | ok a S => exact h
  | exc c fs S => exact h.elim
  | bad => exact h

/-! ### a fresh list, not of the store -/
def lTL (K : KX) (W : XW) (m : En → Sto → Rs (List D)) : TE := fun σ H Q => ∃ p S E, RS K p S H ∧ RE K p H E σ ∧ post K W p H (m E S) fun ds _ p' H' => ∀ a vs, H' a = none → vs.length ≤ sizeLine → RDs K p' H' ds vs → Q (.ref a) (upd H' a (.lst vs))
abbrev TL (X : Cx) (W : XW) (e : Expr) (m : En → Sto → Rs (List D)) : Prop := PE X e (lTL (gX X) W m)
open Classical in
noncomputable def compL (g : Sto → Prop) (body : D → Sto → Rs (Option D)) : List D → List D → Sto → Rs (List D)
  | [], acc, S => if g S then .ok acc S else .bad
  | d :: r, acc, S => if g S then (noX (body d S)).bind fun o S1 => (match o with
      | some y => if acc.length < sizeLine then compL g body r (acc ++ [y]) S1 else .bad
      | none => compL g body r acc S1) else .bad
def bodyL (vs : List Nat) (g : D → En → Sto → Rs En) (t : En → Sto → Rs Bool) (m : En → Sto → Rs D) (E : En) : D → Sto → Rs (Option D) := fun d S =>
  (g d (wipeE vs E) S).bind fun E1 S1 => (t E1 S1).bind fun b S2 => if b = true then (m E1 S2).bind fun y S3 => .ok (some y) S3 else .ok none S2
noncomputable def mComp (mi : En → Sto → Rs AI) (vs : List Nat) (g : D → En → Sto → Rs En) (t : En → Sto → Rs Bool) (m : En → Sto → Rs D) : En → Sto → Rs (List D) := fun E S => (mi E S).bind fun ai S1 =>
  (compL ai.g (bodyL vs g t m E) ai.items [] (lockS ai.lk S1)).bind fun ds S2 => unl ai.lk ds S2
/-- the heap without what stands at a -/
def del (H : Hp) (a : Addr) : Hp := fun b => if b = a then none else H b
theorem del_same {H : Hp} {a : Addr} : del H a a = none := by unfold del; rw [if_pos rfl]
theorem del_ne {H : Hp} {a b : Addr} (h : b ≠ a) : del H a b = H b := by unfold del; rw [if_neg h]
theorem upd_del {H : Hp} {a : Addr} {o : HO} (h : H a = some o) : upd (del H a) a o = H := by
  funext b
  by_cases hb : b = a
  · subst hb; rw [upd_same, h]
  · rw [upd_ne hb, del_ne hb]
theorem Keep.del {K : KX} {H : Hp} {a : Addr} {o : HO} (h : H a = some o) (hn : safeO o = true) : Keep K H (del H a) := Keep.of fun b ob e hs => by
  have : b ≠ a := fun z => by subst z; rw [h] at e; cases e; exact hs (.inl hn)
  rw [del_ne this]; exact e
theorem RS.del {K : KX} {p : List Addr} {S : Sto} {H : Hp} {a : Addr} {o : HO} (hs : RS K p S H) (ha : a ∉ p) (h : H a = some o) (hn : safeO o = true) : RS K p S (del H a) :=
  ⟨hs.len, hs.nd, fun n b ob e1 e2 => by
    obtain ⟨x, ex, r⟩ := hs.get n b ob e1 e2
    have : b ≠ a := fun z => ha (by rw [← z]; exact mem_of_get e1)
    exact ⟨x, by rw [del_ne this]; exact ex, r.mono (Pre.refl _) (Keep.del h hn)⟩⟩
theorem Ext.del {K : KX} {p q : List Addr} {H H' : Hp} {a : Addr} {o : HO} (x : Ext K p H q H') (h0 : H a = none) (h : H' a = some o) (hn : safeO o = true) : Ext K p H q (del H' a) :=
  ⟨x.pre, x.tup.trans (Keep.del h hn), fun b ob h1 h2 h3 => ⟨(x.frm b ob h1 h2 h3).1, by rw [del_ne (ne_of_none h2 h0)]; exact (x.frm b ob h1 h2 h3).2⟩, fun b ob u h2 => by rw [del_ne (ne_of_none h2 h0)]; exact x.frz b ob u h2⟩
theorem RS.notin {K : KX} {p : List Addr} {S : Sto} {H : Hp} {a : Addr} (hs : RS K p S H) (h : H a = none) : a ∉ p := fun hm => by
  obtain ⟨n, hn, e⟩ := List.getElem_of_mem hm
  have hl : n < S.length := by rw [← hs.len]; exact hn
  obtain ⟨x, ex, _⟩ := hs.get n a S[n] (by simp [hn, e]) (by simp [hl])
  rw [h] at ex; cases ex
/-- the list being filled at D put back behind an unlock -/
theorem un_back {H H4 : Hp} {a : Addr} {o : HO} (h : H a = some o) (u : Un X (del H a) H4) : H4 a = none ∧ Un X H (upd H4 a o) := by
  generalize hG : del H a = G at u
  cases u with
  | none => subst hG; exact ⟨del_same, by rw [upd_del h]; exact .none⟩
  | @some b ob u e hn =>
    subst hG
    have hb : b ≠ a := fun z => by subst z; rw [del_same] at e; cases e
    refine ⟨by rw [upd_ne (Ne.symm hb)]; exact del_same, ?_⟩
    have e2 : upd (upd (del H a) b u) a o = upd H b u := by
      funext c
      by_cases h1 : c = a
      · subst h1; rw [upd_same, upd_ne (Ne.symm hb), h]
      · rw [upd_ne h1]
        by_cases h2 : c = b
        · subst h2; rw [upd_same, upd_same]
        · rw [upd_ne h2, upd_ne h2, del_ne h1]
    rw [e2]
    rw [del_ne hb] at e
    exact .some e hn
theorem lc_read {mi : En → Sto → Rs AI} {vs : List Nat} {g : D → En → Sto → Rs En} {t : En → Sto → Rs Bool} {m : En → Sto → Rs D} {σ : St} {H : Hp} {Q : VK} (q : lTL (gX X) W (mComp mi vs g t m) σ H Q) :
    tLc (lI X W mi) (lGo (gX X) W0 vs g) (lT (gX X) W0 t) (lE (gX X) W0 m) vs σ H fun v H' => ∃ H4, Un X H' H4 ∧ Q v H4 := by
  obtain ⟨p, S, E, hs, he, q⟩ := q
  refine ⟨p, S, E, hs, he, post_mono (fun ai S1 p1 H1 x1 hs1 q1 J H2 lk wd D hD => ?_) (post_bind q)⟩
  have hs2 := lk.rs hs1
  have x2 := lk.ext
  generalize lockS ai.lk S1 = S2 at lk hs2 q1
  have he2 : RE (gX X) p1 H2 (wipeE vs E) (wipe σ vs) := ((he.mono x1.pre x1.tup).mono x2.pre x2.tup).wipe vs
  refine ⟨fun i n H => ∃ p3 S3 acc us, n = ai.items.length - i ∧ i ≤ ai.items.length ∧ D ∉ p3 ∧ H D = some (.lst us) ∧ us.length ≤ sizeLine ∧ RDs (gX X) p3 H acc us ∧ Ext (gX X) p1 H2 p3 H ∧ RS (gX X) p3 S3 H ∧
    post (gX X) W p1 H1 (compL ai.g (bodyL vs g t m E) (ai.items.drop i) acc S3) (fun ds S' _ _ => post (gX X) W p1 H1 (unl ai.lk ds S') fun ds _ p' H' => ∀ a vs, H' a = none → vs.length ≤ sizeLine → RDs (gX X) p' H' ds vs → Q (.ref a) (upd H' a (.lst vs))),
    ⟨ai.items.length, p1, S2, [], [], by simp, Nat.zero_le _, hs2.notin hD, upd_same, Nat.zero_le _, rfl, Ext.new hD, hs2.frame hD, by simpa using post_bindB q1⟩, ?_⟩
  rintro i n H3 ⟨p3, S3, acc, us, rfl, hi, hn3, hD3, hz3, ra, x3, hs3, q3⟩
  by_cases hlt : i < ai.items.length
  · have hd : ai.items[i]? = some ai.items[i] := by simp [hlt]
    rw [List.drop_eq_getElem_cons hlt] at q3
    unfold compL at q3
    split at q3
    · rename_i hG
      refine .inr ⟨wd.go i p3 S3 H3 x3 hs3 hG hlt, fun H => ∃ p3 S3 acc us, ai.items.length - (i + 1) = ai.items.length - (i + 1) ∧ i + 1 ≤ ai.items.length ∧ D ∉ p3 ∧ H D = some (.lst us) ∧ us.length ≤ sizeLine ∧ RDs (gX X) p3 H acc us ∧ Ext (gX X) p1 H2 p3 H ∧ RS (gX X) p3 S3 H ∧
        post (gX X) W p1 H1 (compL ai.g (bodyL vs g t m E) (ai.items.drop (i + 1)) acc S3) (fun ds S' _ _ => post (gX X) W p1 H1 (unl ai.lk ds S') fun ds _ p' H' => ∀ a vs, H' a = none → vs.length ≤ sizeLine → RDs (gX X) p' H' ds vs → Q (.ref a) (upd H' a (.lst vs))), fun H' w => ⟨ai.items.length - (i + 1), by omega, w⟩, fun x H4 y => ?_⟩
      obtain ⟨x4, hs4, rx⟩ := wd.yld i p3 S3 H3 x H4 _ x3 hs3 hG hd y
      have x04 : Ext (gX X) p1 H1 p3 H4 := (x2.trans x3).trans x4
      have x24 := x3.trans x4
      obtain ⟨_, hD4⟩ := x4.frm D _ hn3 hD3 (fun _ z => by cases z)
      have q4 := post_noX (post_bindB q3)
      unfold bodyL at q4
      refine ⟨p3, S3, wipeE vs E, ai.items[i], hs4, he2.mono x24.pre x24.tup, rx, post_mono (fun E5 S5 p5 H5 x5 hs5 q5 σ5 he5 w5 => ⟨by rw [w5, wipe_idem], ?_⟩) (post_base x04 (post_bindB q4))⟩
      obtain ⟨hn5, hD5⟩ := x5.frm D _ hn3 hD4 (fun _ z => by cases z)
      have x05 := x04.trans x5
      refine ⟨p5, S5, E5, hs5, he5, post_mono (fun b S6 p6 H6 x6 hs6 q6 => ?_) (post_base x05 (post_bindB q5))⟩
      obtain ⟨hn6, hD6⟩ := x6.frm D _ hn5 hD5 (fun _ z => by cases z)
      have x06 := x05.trans x6
      have x26 := (x24.trans x5).trans x6
      cases b with
      | true =>
        refine ⟨p6, S6, E5, hs6, he5.mono x6.pre x6.tup, post_mono (fun y S7 p7 H7 x7 hs7 q7 v rv => ?_) (post_base x06 (post_bindB q6))⟩
        obtain ⟨hn7, hD7⟩ := x7.frm D _ hn6 hD6 (fun _ z => by cases z)
        have x07 := x06.trans x7
        have x27 := x26.trans x7
        have q8 := q7 p7 H7 x07 hs7
        simp only at q8
        split at q8
        · rename_i hz
          have e8 : RDs (gX X) p7 H7 acc us := ra.mono (((x4.trans x5).trans x6).trans x7).pre (((x4.trans x5).trans x6).trans x7).tup
          have hz' : us.length < sizeLine := by rw [← ra.length]; exact hz
          have k8 : Keep (gX X) H7 (upd H7 D (.lst (us ++ [v]))) := Keep.set hD7 (.inl rfl)
          refine ⟨us, hD7, hz', p7, S7, acc ++ [y], us ++ [v], rfl, hlt, hn7, upd_same, by rw [List.length_append]; exact hz', (e8.append (RDs.one rv)).mono (Pre.refl _) k8, ?_, ?_, q8⟩
          · refine ⟨x27.pre, x27.tup.trans k8, fun b ob h1 h2 h3 => ⟨(x27.frm b ob h1 h2 h3).1, ?_⟩, fun b ob u h2 => ?_⟩
            · rw [upd_ne (ne_of_none h2 hD)]; exact (x27.frm b ob h1 h2 h3).2
            · rw [upd_ne (ne_of_none h2 hD)]; exact x27.frz b ob u h2
          · refine ⟨hs7.len, hs7.nd, fun n b ob e1 e2 => ?_⟩
            obtain ⟨z, ez, rz⟩ := hs7.get n b ob e1 e2
            have hb : b ≠ D := fun w => hn7 (by rw [← w]; exact mem_of_get e1)
            exact ⟨z, by rw [upd_ne hb]; exact ez, rz.mono (Pre.refl _) k8⟩
        · exact q8.elim
      | false =>
        have q8 := (q6 p6 H6 x06 hs6)
        exact ⟨p6, S6, acc, us, rfl, hlt, hn6, hD6, hz3, ra.mono ((x4.trans x5).trans x6).pre ((x4.trans x5).trans x6).tup, x26, hs6, q8⟩
    · exact q3.elim
  · have hi' : i = ai.items.length := by omega
    subst hi'
    rw [List.drop_length] at q3
    unfold compL at q3
    split at q3
    · rename_i hG
      have hsD := hs3.del hn3 hD3 rfl
      have xD := x3.del hD hD3 rfl
      obtain ⟨H7, S7, un, x7, hs7, k7, q7⟩ := unl_read lk xD hsD (q3 p3 H3 (x2.trans x3) hs3)
      obtain ⟨hn, un2⟩ := un_back hD3 un
      exact .inl ⟨wd.stop p3 S3 H3 x3 hs3 hG, _, un2, q7 D us hn hz3 (ra.mono (Pre.refl _) ((Keep.del hD3 rfl).trans k7))⟩
    · exact q3.elim
end
end M

namespace M
open PySem L2
section
variable {X : Cx} {W : XW}
/-! ### comprehensions -/
def tYesM : En → Sto → Rs Bool := fun _ S => .ok true S
abbrev MTs (X : Cx) (W : XW) (ifs : List Expr) (t : En → Sto → Rs Bool) : Prop := PTs X ifs (lT (gX X) W t)
theorem mts_nil : MTs X W [] tYesM := ⟨fun pins s σ H Q I h => by
  obtain ⟨p, S, E, hs, he, q⟩ := h
  exact pts_nil.run pins s σ H Q I (show tYes σ H Q from post_ok q hs)⟩
theorem mts_one {c : Expr} {t : En → Sto → Rs Bool} (h : MT X W c t) : MTs X W [c] t := pts_one h
theorem tl_lc {elt tg iter : Expr} {ifs : List Expr} {scope : Scope} {own : List (Str × Nat)} {pos : Pos} {mi : En → Sto → Rs AI} {g : D → En → Sto → Rs En} {t : En → Sto → Rs Bool} {m : En → Sto → Rs D} (hc : X.calm = true) (hN : X.N.Nodup) (hi : MI X W tg iter mi) (ok : BlkOk X.N X.env.scope scope own)
    (hg : ∀ (s : Shared) (H : Hp) (C : Addr) (cl : List (Str × Addr)) (fp : List Addr), MGo (X.blk s H scope (compEnvC scope cl C X.env) fp) W0 (own.map (·.2)) tg g) (ht : ∀ (s : Shared) (H : Hp) (C : Addr) (cl : List (Str × Addr)) (fp : List Addr), MTs (X.blk s H scope (compEnvC scope cl C X.env) fp) W0 ifs t)
    (he : ∀ (s : Shared) (H : Hp) (C : Addr) (cl : List (Str × Addr)) (fp : List Addr), ME (X.blk s H scope (compEnvC scope cl C X.env) fp) W0 elt m) (hs : ∀ x, foldedSetIterable iter X.env x = pure x := by intro _; rfl) :
    TL X W (.ListComp elt [⟨tg, iter, ifs, 0⟩] scope pos) (mComp mi (own.map (·.2)) g t m) := PE.imp (pe_unl (pe_lc hc hN hi ok hg ht he hs)) fun _ _ _ q => lc_read q
/-- the fresh list is taken into the store -/
def mAd (m : En → Sto → Rs (List D)) : En → Sto → Rs D := fun E S => (m E S).bind fun ds S1 => .ok (.ref S1.length) (S1 ++ [.lst ds])
theorem ad_read {m : En → Sto → Rs (List D)} {σ : St} {H : Hp} {Q : VK} (q : lE (gX X) W (mAd m) σ H Q) : lTL (gX X) W m σ H Q := by
  obtain ⟨p, S, E, hs, he, q⟩ := q
  refine ⟨p, S, E, hs, he, post_mono (fun ds S1 p1 H1 x1 hs1 q1 a vs ha hz rv => ?_) (post_bind q)⟩
  exact new_obj hs1 (o := .lst ds) ⟨vs, rfl, rv⟩ q1 ha
theorem me_ad {e : Expr} {m : En → Sto → Rs (List D)} (h : TL X W e m) : ME X W e (mAd m) := PE.imp h fun _ _ _ q => ad_read q
theorem ms_setLc {i : Nat} {y : Str} {py : Pos} {elt tg iter : Expr} {ifs : List Expr} {scope : Scope} {own : List (Str × Nat)} {pos spos : Pos} {mi : En → Sto → Rs AI} {g : D → En → Sto → Rs En} {t : En → Sto → Rs Bool} {m : En → Sto → Rs D} (hc : X.calm = true) (hN : X.N.Nodup) (hy : X.N[i]? = some y) (hyl : X.env.scope.names.lookup y = some .local)
    (hsw : swapsWith (.ListComp elt [⟨tg, iter, ifs, 0⟩] scope pos) (some (.Name y py)) spos.line X.env = pure true) (hi : MI X W tg iter mi) (ok : BlkOk X.N X.env.scope scope own)
    (hg : ∀ (s : Shared) (H : Hp) (C : Addr) (cl : List (Str × Addr)) (fp : List Addr), MGo (X.blk s H scope (compEnvC scope cl C X.env) fp) W0 (own.map (·.2)) tg g) (ht : ∀ (s : Shared) (H : Hp) (C : Addr) (cl : List (Str × Addr)) (fp : List Addr), MTs (X.blk s H scope (compEnvC scope cl C X.env) fp) W0 ifs t)
    (he : ∀ (s : Shared) (H : Hp) (C : Addr) (cl : List (Str × Addr)) (fp : List Addr), ME (X.blk s H scope (compEnvC scope cl C X.env) fp) W0 elt m) (hs : ∀ x, foldedSetIterable iter X.env x = pure x := by intro _; rfl) :
    MS X W (.Assign [.Name y py] (.ListComp elt [⟨tg, iter, ifs, 0⟩] scope pos) spos) (sAsg (mAd (mComp mi (own.map (·.2)) g t m)) (gN i)) :=
  PS.imp (ps_unl (ps_setLc hc hN hy hyl hsw hi ok hg ht he hs)) fun Z σ H q => by
    obtain ⟨p, S, E, hs, he, q⟩ := q
    refine lc_read (mi := mi) (g := g) (t := t) (m := m) (Q := fun v H4 => Z.nx (σ.set i (some v)) H4) (ad_read ?_)
    refine lE_step hs he (post_mono (fun d S1 p1 H1 x1 hs1 q1 v rv => ?_) (post_bind q))
    exact post_ok q1 hs1 _ ((he.mono x1.pre x1.tup).set rv)
/-- a built-in called with one fresh list -/
def mTL (f : List D → Sto → Rs D) (m : En → Sto → Rs (List D)) : En → Sto → Rs D := fun E S => (m E S).bind fun ds S1 => f ds S1
def PrimTL (K : KX) (W : XW) (r : List V → Hp → VK → Prop) (f : List D → Sto → Rs D) : Prop := ∀ (p : List Addr) (S : Sto) (H : Hp) (ds : List D) (vs : List V) (a : Addr) (Q : VK), RS K p S H → RDs K p H ds vs → H a = none → vs.length ≤ sizeLine → post K W p H (f ds S) (kE K Q) → r [.ref a] (upd H a (.lst vs)) Q
theorem tl_args {e : Expr} {m : En → Sto → Rs (List D)} {r : List V → Hp → VK → Prop} {f : List D → Sto → Rs D} (hp : PrimTL (gX X) W r f) {σ : St} {H : Hp} {Q : VK} (q : lE (gX X) W (mTL f m) σ H Q) : (tCons (lTL (gX X) W m) tNil) σ H fun vs H1 => r vs H1 Q := by
  obtain ⟨p, S, E, hs, he, q⟩ := q
  exact ⟨p, S, E, hs, he, post_mono (fun ds S1 p1 H1 x1 hs1 q1 a vs ha hz rv => hp p1 S1 H1 ds vs a Q hs1 rv ha hz q1) (post_bind q)⟩
theorem me_tlB {x : Str} {id : String} {r : List V → Hp → VK → Prop} {f : List D → Sto → Rs D} {m : En → Sto → Rs (List D)} {e : Expr} {p pos : Pos} (hc : CallR X (.builtin id) r) (hp : PrimTL (gX X) W r f) (hg : Gl X x) (hm : X.mg x = none) (hv : bootBuiltins x = some (.builtin id)) (ha : TL X W e m) (hn : x ≠ "__name__" := by decide) (hdb : (x == ("__debug__" : Str)) = false := by decide)
    (he : starEach [e] X.env = (false, eval e X.env) :: starEach [] X.env := by rfl) (hpl : (backTo pos (starEach [] X.env)).any (·.1) = false := by rfl) : ME X W (.Call (.Name x p) [e] [] pos) (mTL f m) :=
  PE.imp (pe_callB hc hg hm hv (pa_cons ha pa_nil he) hn hdb he hpl) fun _ _ _ q => tl_args (e := e) hp q
theorem me_tlTy {x : Str} {T : String} {r : List V → Hp → VK → Prop} {f : List D → Sto → Rs D} {m : En → Sto → Rs (List D)} {e : Expr} {p pos : Pos} (hc : CallR X (.type T) r) (hp : PrimTL (gX X) W r f) (hg : Gl X x) (hm : X.mg x = none) (hv : bootBuiltins x = some (.type T)) (ha : TL X W e m) (hn : x ≠ "__name__" := by decide) (hdb : (x == ("__debug__" : Str)) = false := by decide)
    (he : starEach [e] X.env = (false, eval e X.env) :: starEach [] X.env := by rfl) (hpl : (backTo pos (starEach [] X.env)).any (·.1) = false := by rfl) : ME X W (.Call (.Name x p) [e] [] pos) (mTL f m) :=
  PE.imp (pe_callTy hc hg hm hv (pa_cons ha pa_nil he) hn hdb he hpl) fun _ _ _ q => tl_args (e := e) hp q
/-- a fresh list that is written -/
theorem tl_lst {es : List Expr} {t : En → Sto → Rs (List D)} {pos : Pos} (h : MA X W es t) : TL X W (.List es pos) (fun E S => (t E S).bind fun ds S1 => if ds.length ≤ sizeLine then .ok ds S1 else .bad) :=
  PE.imp (pe_lst h) fun σ H Q q => by
    obtain ⟨p, S, E, hs, he, q⟩ := q
    refine ⟨p, S, E, hs, he, post_mono (fun ds S1 p1 H1 x1 hs1 q1 vs rvs => ?_) (post_bind q)⟩
    split at q1
    · rename_i hl
      have hl' : vs.length ≤ sizeLine := by rw [← rvs.length]; exact hl
      exact ⟨hl', fun a ha => post_ok q1 hs1 a vs ha hl' rvs⟩
    · exact q1.elim
end

/-! ### what is no more held is dropped -/
mutual
def lowD (n : Nat) : D → Bool
  | .tup ds => lowDs n ds
  | .ref m => decide (m < n)
  | .non => true
  | .bl _ => true
  | .int _ => true
  | .str _ => true
  | .raw _ => true
  | .rl _ => true
def lowDs (n : Nat) : List D → Bool
  | [] => true
  | d :: r => lowD n d && lowDs n r
end
def lowO (n : Nat) : O → Bool
  | .lst ds => lowDs n ds
  | .dk kvs => lowDs n (kvs.map (·.2))
  | .fd kvs => lowDs n (kvs.map (·.2))
  | .dn kvs => lowDs n (kvs.map (·.2))
  | .fn kvs => lowDs n (kvs.map (·.2))
  | .ex _ fs => lowDs n (fs.map (·.2))
  | .tb _ _ => true
def lowS (n : Nat) (S : Sto) : Bool := S.all (lowO n)
section
variable {K : KX} {p r : List Addr} {H : Hp}
mutual
theorem RD.cut : ∀ {d : D} {v : V}, RD K (p ++ r) H d v → lowD p.length d = true → RD K p H d v
  | .non, _, h, _ => h
  | .bl _, _, h, _ => h
  | .int _, _, h, _ => h
  | .str _, _, h, _ => h
  | .raw _, _, h, _ => h
  | .rl _, _, h, _ => h
  | .ref n, v, h, b => by
    obtain ⟨a, e, rfl⟩ := h
    have hb : n < p.length := of_decide_eq_true b
    rw [List.getElem?_append_left hb] at e
    exact ⟨a, e, rfl⟩
  | .tup ds, v, h, b => by
    obtain ⟨a, vs, rfl, e, rs⟩ := h
    exact ⟨a, vs, rfl, e, RDs.cut rs b⟩
theorem RDs.cut : ∀ {ds : List D} {vs : List V}, RDs K (p ++ r) H ds vs → lowDs p.length ds = true → RDs K p H ds vs
  | [], _, h, _ => h
  | d :: ds, vs, h, b => by
    obtain ⟨v, us, rfl, h1, h2⟩ := h
    have b' : (lowD p.length d && lowDs p.length ds) = true := b
    rw [Bool.and_eq_true] at b'
    exact ⟨v, us, rfl, RD.cut h1 b'.1, RDs.cut h2 b'.2⟩
end
mutual
theorem low_key {n : Nat} : ∀ k : NestedKey, lowD n (nkD k) = true
  | .none => rfl
  | .num _ => rfl
  | .text _ => rfl
  | .tup ks => low_keys ks
theorem low_keys {n : Nat} : ∀ ks : List NestedKey, lowDs n (nkDs ks) = true
  | [] => rfl
  | k :: ks => by
    show (lowD n (nkD k) && lowDs n (nkDs ks)) = true
    rw [low_key k, low_keys ks]; rfl
end
theorem low_nks {n : Nat} {α : Type} : ∀ kvs : List (NestedKey × α), lowDs n (kvs.map fun kv => nkD kv.1) = true
  | [] => rfl
  | kv :: r => by
    show (lowD n (nkD kv.1) && lowDs n (r.map fun kv => nkD kv.1)) = true
    rw [low_key, low_nks r]; rfl
theorem RO.cut {a : Addr} : ∀ {o : O} {h : HO}, RO K (p ++ r) H a o h → lowO p.length o = true → RO K p H a o h
  | .lst ds, h, q, b => by
    obtain ⟨vs, rfl, rs⟩ := q
    exact ⟨vs, rfl, rs.cut b⟩
  | .dk kvs, h, q, b => by
    obtain ⟨ws, rfl, rk⟩ := q
    exact ⟨ws, rfl, rk.1, rk.2.cut b⟩
  | .fd kvs, h, q, b => by
    obtain ⟨ob, ws, rfl, rk⟩ := q
    exact ⟨ob, ws, rfl, rk.1, rk.2.cut b⟩
  | .dn kvs, h, q, b => by
    obtain ⟨ws, rfl, rk⟩ := q
    exact ⟨ws, rfl, rk.1, rk.2.1.cut b, rk.2.2.cut (low_nks _)⟩
  | .fn kvs, h, q, b => by
    obtain ⟨ob, ws, rfl, rk⟩ := q
    exact ⟨ob, ws, rfl, rk.1, rk.2.1.cut b, rk.2.2.cut (low_nks _)⟩
  | .ex c fs, h, q, b => by
    obtain ⟨d, rfl, r⟩ := q
    refine ⟨d, rfl, r.imp id ?_⟩
    rintro ⟨e0, dd, ws, e1, e2, e3, e4⟩
    exact ⟨e0, dd, ws, e1, e2, e3, e4.cut b⟩
  | .tb P x, h, q, b => q
end
def gc (n : Nat) (d : D) (S : Sto) : Rs D := if lowD n d && lowS n (S.take n) then .ok d (S.take n) else .ok d S
theorem gc_read {K : KX} {W : XW} {p q : List Addr} {S S' : Sto} {H H' : Hp} {d : D} {v : V} {Q : VK} (hs : RS K p S H) (x : Ext K p H q H') (hs' : RS K q S' H') (rv : RD K q H' d v) (h : post K W p H (gc S.length d S') (kE K Q)) : Q v H' := by
  unfold gc at h
  split at h
  · rename_i hb
    rw [Bool.and_eq_true] at hb
    obtain ⟨r, rfl⟩ := x.pre
    have hl : p.length = S.length := hs.len
    have hb2 : ∀ o ∈ S'.take S.length, lowO p.length o = true := by
      rw [hl]
      exact List.all_eq_true.mp hb.2
    refine h p H' ⟨Pre.refl _, x.tup, fun a o h1 h2 h3 => ⟨h1, (x.frm a o h1 h2 h3).2⟩, x.frz⟩ ⟨?_, (List.nodup_append.mp hs'.nd).1, fun n a o e1 e2 => ?_⟩ v (rv.cut (by rw [hl]; exact hb.1))
    · have := hs'.len
      rw [List.length_append] at this
      rw [List.length_take]
      omega
    · have hn : n < p.length := (List.getElem?_eq_some_iff.mp e1).1
      have e2' : S'[n]? = some o := by
        rw [List.getElem?_take_of_lt (by omega)] at e2
        exact e2
      obtain ⟨y, ey, ry⟩ := hs'.get n a o (by rw [List.getElem?_append_left hn]; exact e1) e2'
      exact ⟨y, ey, ry.cut (hb2 o (List.mem_of_getElem? e2))⟩
  · exact h q H' x hs' v rv

/-! ### defs -/
def spM (K : KX) (n : Nat) (f : List D → Sto → Rs D) : Sp := fun vs H Q _ => vs.length = n ∧ ∃ p S ds, RS K p S H ∧ RDs K p H ds vs ∧ post K W0 p H (f ds S) (kE K Q)
def startE (n : Nat) (ds : List D) : En := ds.map some ++ List.replicate (n - ds.length) none
def endD (n : Nat) : Fl → Sto → Rs D := fun fl S => match fl with
  | .rt d => gc n d S
  | .nx _ => gc n .non S
  | .bk _ => .bad
  | .ct _ => .bad
def mDef (n : Nat) (mb : En → Sto → Rs Fl) : List D → Sto → Rs D := fun ds S => (mb (startE n ds) S).bind (endD S.length)
theorem RE.start {K : KX} {p : List Addr} {H : Hp} {ds : List D} {vs : List V} (N : List Str) (r : RDs K p H ds vs) : RE K p H (startE N.length ds) (start N vs) := by
  have hl := r.length
  refine ⟨by simp [startE, L2.start, hl], fun i d e => ?_⟩
  unfold startE at e
  by_cases hi : i < ds.length
  · rw [List.getElem?_append_left (by simpa using hi), List.getElem?_map] at e
    cases hq : ds[i]? with
    | none => rw [hq] at e; cases e
    | some d' =>
      rw [hq] at e
      have e : d' = d := by simpa using e
      subst e
      obtain ⟨v, hv, rv⟩ := r.get hq
      refine ⟨v, ?_, rv⟩
      unfold L2.start
      rw [List.getElem?_append_left (by simpa [← hl] using hi), List.getElem?_map, hv]
      rfl
  · rw [List.getElem?_append_right (by simpa using hi), List.getElem?_replicate] at e
    split at e <;> cases e
section
variable {P : Program} {w : World} {K : PySem.W.Frag} {mg : Str → Option Value} {base : Heap}
theorem ok_def {x qual : Str} {st : Stmt} {f : Addr} {fd : FuncData} {N ps : List Str} {k : Nat} {mb : En → Sto → Rs Fl} (F : Fun K x qual st f fd) (S : FnScope N ps (defScope st))
    (hb : ∀ (cdv : Value) (A : Around) (outer : List Env) (s : Shared) (H : Hp) (E : XK), Room k (A.deeper (PyProof.Rows.envOfC qual (defScope st) s.heap.objs.size f cdv)) → MSs (cxOf CX0 P w K mg base N qual (defScope st) f cdv A outer s H E).nox W0 (defBody st) mb) :
    FnOk P w K mg base CX0 (k + 1) f fd ps (spM ⟨K, P, w⟩ ps.length (mDef N.length mb)) := by
  refine F.ok S (fun vs H Q E h => h.1) (fun cdv A outer s H vs Q E hr h => ?_)
  obtain ⟨hl, p, S', ds, hs, rd, q⟩ := h
  refine ⟨_, hb cdv A outer s H E hr, p, S', startE N.length ds, hs, RE.start N rd, post_mono (fun fl S1 p1 H1 x1 hs1 q1 => ?_) (post_bindB q)⟩
  cases fl with
  | nx E1 => exact fun σ' _ => gc_read (d := .non) (v := .non) hs x1 hs1 rfl q1
  | rt d => exact fun v rv => gc_read hs x1 hs1 rv q1
  | bk E1 => exact q1.elim
  | ct E1 => exact q1.elim
end
section
variable {X : Cx} {W : XW}
def mCl (n : Nat) (f : List D → Sto → Rs D) : List D → Sto → Rs D := fun ds S => if ds.length = n then noX (f ds S) else .bad
theorem me_call {k n : Nat} {f : Addr} {fd : FuncData} {ps : List Str} {mf : List D → Sto → Rs D} {x : Str} {p pos : Pos} {e : Expr} {es : List Expr} {t : En → Sto → Rs (List D)} (F : FnOk X.prog X.w X.K X.mg X.base CX0 k f fd ps (spM (gX X) n mf)) (hr : Room k X.A) (hg : Gl X x) (hm : X.mg x = some (.ref f)) (hk : PySem.W.keepIn X.K (.ref f) = true) (hb : Binds X.K fd ps [])
    (ha : MA X W (e :: es) t) (hdb : (x == ("__debug__" : Str)) = false := by decide) (he : starEach (e :: es) X.env = (false, eval e X.env) :: starEach es X.env := by rfl) (hpl : (backTo pos (starEach es X.env)).any (·.1) = false := by rfl) :
    ME X W (.Call (.Name x p) (e :: es) [] pos) (mN (mCl n mf) t) :=
  PE.imp (pe_call F hr hg hm hk hb .nil pass0 ha hdb he hpl) fun σ H Q q => by
    obtain ⟨p, S, E, hs, he, q⟩ := q
    refine ⟨p, S, E, hs, he, post_mono (fun ds S1 p1 H1 x1 hs1 q1 vs rvs => ?_) (post_bind q)⟩
    show spM (gX X) n mf (vs ++ []) H1 Q E0
    rw [List.append_nil]
    unfold mCl at q1
    split at q1
    · rename_i hl
      exact ⟨by rw [← rvs.length]; exact hl, p1, S1, ds, hs1, rvs, post_noX q1⟩
    · exact q1.elim
theorem me_call0 {k n : Nat} {f : Addr} {fd : FuncData} {ps : List Str} {mf : List D → Sto → Rs D} {x : Str} {p pos : Pos} (F : FnOk X.prog X.w X.K X.mg X.base CX0 k f fd ps (spM (gX X) 0 mf)) (hr : Room k X.A) (hg : Gl X x) (hm : X.mg x = some (.ref f)) (hk : PySem.W.keepIn X.K (.ref f) = true) (hb : Binds X.K fd ps [])
    (hdb : (x == ("__debug__" : Str)) = false := by decide) : ME X W (.Call (.Name x p) [] [] pos) (mN (mCl 0 mf) aNil) :=
  PE.imp (pe_call0 F hr hg hm hk hb .nil pass0 hdb) fun σ H Q q => by
    obtain ⟨p, S, E, hs, he, q⟩ := q
    exact ⟨rfl, p, S, [], hs, rfl, post_noX q⟩
end
end M

namespace M
open PySem L2

/-! ### dicts of data -/
def getK (kvs : List (Key × D)) (k : Key) : Option D := (kvs.find? fun kv => decide (kv.1 = k)).map (·.2)
def setK (kvs : List (Key × D)) (k : Key) (d : D) : List (Key × D) :=
  if (kvs.any fun kv => decide (kv.1 = k)) = true then kvs.map (fun kv => if kv.1 = k then (kv.1, d) else kv) else kvs ++ [(k, d)]
def delK (kvs : List (Key × D)) (k : Key) : List (Key × D) := kvs.filter fun kv => decide (kv.1 ≠ k)
def toKey : D → Option Key
  | .int i => some (.inl i)
  | .str x => some (.inr x)
  | _ => none
section
variable {K : KX} {p : List Addr} {H : Hp}
theorem RKs.cons {k : Key} {d : D} {r : List (Key × D)} {ws : List (Key × V)} (h : RKs K p H ((k, d) :: r) ws) : ∃ v s, ws = (k, v) :: s ∧ RD K p H d v ∧ RKs K p H r s := by
  obtain ⟨h1, h2⟩ := h
  cases ws with
  | nil => simp at h1
  | cons w s =>
    obtain ⟨k', v⟩ := w
    simp at h1
    obtain ⟨v', r', e, rv, rr⟩ := h2
    simp at e
    obtain ⟨rfl, rfl⟩ := e
    obtain ⟨rfl, h1⟩ := h1
    exact ⟨v, s, rfl, rv, h1, rr⟩
theorem RKs.nil {ws : List (Key × V)} (h : RKs K p H [] ws) : ws = [] := by
  have := h.1
  simpa using this
theorem RKs.mk {k : Key} {d : D} {v : V} {r : List (Key × D)} {s : List (Key × V)} (rv : RD K p H d v) (h : RKs K p H r s) : RKs K p H ((k, d) :: r) ((k, v) :: s) :=
  ⟨by simp [h.1], v, s.map (·.2), rfl, rv, h.2⟩
theorem RKs.nil' : RKs K p H [] [] := ⟨rfl, rfl⟩
theorem RKs.val {k : Key} : ∀ {kvs : List (Key × D)} {ws : List (Key × V)}, RKs K p H kvs ws → (∀ d, getK kvs k = some d → ∃ v, valV ws k = some v ∧ RD K p H d v) ∧ (getK kvs k = none → valV ws k = none)
  | [], ws, h => by
    rw [h.nil]
    exact ⟨fun d e => by simp [getK] at e, fun _ => rfl⟩
  | (k', d) :: r, ws, h => by
    obtain ⟨v, s, rfl, rv, rr⟩ := h.cons
    by_cases e : k' = k
    · refine ⟨fun d' q => ⟨v, valV_pos e, ?_⟩, fun q => ?_⟩
      · simp [getK, List.find?_cons, e] at q
        subst q; exact rv
      · simp [getK, List.find?_cons, e] at q
    · have e1 : getK ((k', d) :: r) k = getK r k := by simp [getK, List.find?_cons, e]
      rw [e1, valV_neg e]
      exact RKs.val rr
theorem RKs.any {k : Key} {kvs : List (Key × D)} {ws : List (Key × V)} (h : RKs K p H kvs ws) : (kvs.any fun kv => decide (kv.1 = k)) = ws.any fun kv => decide (kv.1 = k) := by
  have e1 : (kvs.any fun kv => decide (kv.1 = k)) = (kvs.map (·.1)).any fun x => decide (x = k) := by rw [List.any_map]; rfl
  have e2 : (ws.any fun kv => decide (kv.1 = k)) = (ws.map (·.1)).any fun x => decide (x = k) := by rw [List.any_map]; rfl
  rw [e1, e2, h.1]
theorem RKs.repl {k : Key} {d : D} {v : V} (rv : RD K p H d v) : ∀ {kvs : List (Key × D)} {ws : List (Key × V)}, RKs K p H kvs ws → RKs K p H (kvs.map fun kv => if kv.1 = k then (kv.1, d) else kv) (ws.map fun kv => if kv.1 = k then (kv.1, v) else kv)
  | [], ws, h => by rw [h.nil]; exact .nil'
  | (k', d') :: r, ws, h => by
    obtain ⟨v', s, rfl, rv', rr⟩ := h.cons
    simp only [List.map_cons]
    by_cases e : k' = k
    · simp only [e, if_true]; exact .mk rv (RKs.repl rv rr)
    · simp only [e, if_false]; exact .mk rv' (RKs.repl rv rr)
theorem RKs.snoc {k : Key} {d : D} {v : V} (rv : RD K p H d v) {kvs : List (Key × D)} {ws : List (Key × V)} (h : RKs K p H kvs ws) : RKs K p H (kvs ++ [(k, d)]) (ws ++ [(k, v)]) :=
  ⟨by simp [h.1], by simpa using h.2.append (RDs.one rv)⟩
theorem RKs.put {k : Key} {d : D} {v : V} (rv : RD K p H d v) {kvs : List (Key × D)} {ws : List (Key × V)} (h : RKs K p H kvs ws) : RKs K p H (setK kvs k d) (putK ws k v) := by
  unfold setK putK
  rw [h.any (k := k)]
  split
  · exact h.repl rv
  · exact h.snoc rv
theorem RKs.drop {k : Key} : ∀ {kvs : List (Key × D)} {ws : List (Key × V)}, RKs K p H kvs ws → RKs K p H (delK kvs k) (dropK ws k)
  | [], ws, h => by rw [h.nil]; exact .nil'
  | (k', d') :: r, ws, h => by
    obtain ⟨v', s, rfl, rv', rr⟩ := h.cons
    have ih := RKs.drop (k := k) rr
    unfold delK dropK at ih ⊢
    simp only [List.filter_cons]
    by_cases e : k' = k
    · simp only [e, ne_eq, not_true_eq_false, decide_false, Bool.false_eq_true, if_false]; exact ih
    · simp only [e, ne_eq, not_false_eq_true, decide_true, if_true]; exact .mk rv' ih
theorem toKey_read {d : D} {v : V} {k : Key} (r : RD K p H d v) (h : toKey d = some k) : v = kV k := by
  cases d with
  | int i => cases h; exact r
  | str x => cases h; exact r
  | _ => cases h
end

/-! ### the operators -/
def opAdd (x y : D) (S : Sto) : Rs D := match x, y with
  | .int i, .int j => .ok (.int (i + j)) S
  | .tup a, .tup b => if a.length + b.length ≤ sizeLine then .ok (.tup (a ++ b)) S else .bad
  | .str a, .str b => if a.length + b.length ≤ sizeLine then .ok (.str (a ++ b)) S else .bad
  | .ref n, .ref m => match S[n]?, S[m]? with
    | some (.lst a), some (.lst b) => if a.length + b.length ≤ sizeLine then .ok (.ref S.length) (S ++ [.lst (a ++ b)]) else .bad
    | _, _ => .bad
  | _, _ => .bad
def opI (f : Int → Int → Int) (x y : D) (S : Sto) : Rs D := match x, y with
  | .int i, .int j => .ok (.int (f i j)) S
  | _, _ => .bad
def opSub := opI fun i j => i - j
def opMul (x y : D) (S : Sto) : Rs D := match x, y with
  | .int i, .int j => if (-(2 ^ 64) < i ∧ i < 2 ^ 64) ∨ (-(2 ^ 64) < j ∧ j < 2 ^ 64) then .ok (.int (i * j)) S else .bad
  | _, _ => .bad
def opFdiv (x y : D) (S : Sto) : Rs D := match x, y with
  | .int i, .int j => if 0 < j ∧ j < 1073741824 then .ok (.int (i / j)) S else .bad
  | _, _ => .bad
def opMod (x y : D) (S : Sto) : Rs D := match x, y with
  | .int i, .int j => if 0 < j then .ok (.int (i % j)) S else .bad
  | _, _ => .bad
def opPow (x y : D) (S : Sto) : Rs D := match x, y with
  | .int i, .int j => if 0 ≤ j ∧ j ≤ 1000000 ∧ i.natAbs < 2 ^ 64 then .ok (.int (i ^ j.toNat)) S else .bad
  | _, _ => .bad
def cmpI (f : Int → Int → Bool) (x y : D) (S : Sto) : Rs D := match x, y with
  | .int i, .int j => .ok (.bl (f i j)) S
  | _, _ => .bad
def opLt := cmpI fun i j => decide (i < j)
def opLe := cmpI fun i j => decide (i ≤ j)
def opGt := cmpI fun i j => decide (j < i)
def opGe := cmpI fun i j => decide (j ≤ i)
def opNeg (x : D) (S : Sto) : Rs D := match x with
  | .int i => .ok (.int (-i)) S
  | _ => .bad
section
variable {X : Cx} {W : XW}
theorem pr_int {g : Int → Int → V} {f : Int → Int → D} (h : ∀ K p H i j, RD K p H (f i j) (g i j)) {K : KX} : Prim2 K W (rI0 g) (fun x y S => match x, y with | .int i, .int j => .ok (f i j) S | _, _ => .bad) := by
  intro p S H x y v u Q hs rx ry q
  cases x <;> cases y <;> first
    | exact q.elim
    | exact ⟨_, _, rx, ry, post_ok q hs _ (h _ _ _ _ _)⟩
theorem pr_sub {K : KX} : Prim2 K W (rI0 fun i j => .int (i - j)) opSub := pr_int (f := fun i j => .int (i - j)) fun _ _ _ _ _ => rfl
theorem pr_lt {K : KX} : Prim2 K W (rI0 fun i j => .bl (decide (i < j))) opLt := pr_int (f := fun i j => .bl (decide (i < j))) fun _ _ _ _ _ => rfl
theorem pr_le {K : KX} : Prim2 K W (rI0 fun i j => .bl (decide (i ≤ j))) opLe := pr_int (f := fun i j => .bl (decide (i ≤ j))) fun _ _ _ _ _ => rfl
theorem pr_gt {K : KX} : Prim2 K W (rI0 fun i j => .bl (decide (j < i))) opGt := pr_int (f := fun i j => .bl (decide (j < i))) fun _ _ _ _ _ => rfl
theorem pr_ge {K : KX} : Prim2 K W (rI0 fun i j => .bl (decide (j ≤ i))) opGe := pr_int (f := fun i j => .bl (decide (j ≤ i))) fun _ _ _ _ _ => rfl
theorem pr_mul {K : KX} : Prim2 K W (rI CMul fun i j => .int (i * j)) opMul := by
  intro p S H x y v u Q hs rx ry q
  cases x <;> cases y <;> try exact q.elim
  simp only [opMul] at q
  split at q
  · rename_i hc
    exact ⟨_, _, rx, ry, hc, post_ok q hs _ rfl⟩
  · exact q.elim
theorem pr_fdiv {K : KX} : Prim2 K W (rI CDiv fun i j => .int (i / j)) opFdiv := by
  intro p S H x y v u Q hs rx ry q
  cases x <;> cases y <;> try exact q.elim
  simp only [opFdiv] at q
  split at q
  · rename_i hc
    exact ⟨_, _, rx, ry, hc, post_ok q hs _ rfl⟩
  · exact q.elim
theorem pr_mod {K : KX} : Prim2 K W (rI (fun _ j => 0 < j) fun i j => .int (i % j)) opMod := by
  intro p S H x y v u Q hs rx ry q
  cases x <;> cases y <;> try exact q.elim
  simp only [opMod] at q
  split at q
  · rename_i hc
    exact ⟨_, _, rx, ry, hc, post_ok q hs _ rfl⟩
  · exact q.elim
theorem pr_pow {K : KX} : Prim2 K W (rI CPow fun i j => .int (i ^ j.toNat)) opPow := by
  intro p S H x y v u Q hs rx ry q
  cases x <;> cases y <;> try exact q.elim
  simp only [opPow] at q
  split at q
  · rename_i hc
    exact ⟨_, _, rx, ry, hc, post_ok q hs _ rfl⟩
  · exact q.elim
theorem pr_neg {K : KX} : Prim1 K W (rU fun i => .int (-i)) opNeg := by
  intro p S H x v Q hs rx q
  cases x <;> try exact q.elim
  exact ⟨_, rx, post_ok q hs _ rfl⟩
/-- a list of the store as HandS has it -/
theorem lst_at {K : KX} {p : List Addr} {S : Sto} {H : Hp} {n : Nat} {a : Addr} {ds : List D} (hs : RS K p S H) (ea : p[n]? = some a) (h : S[n]? = some (.lst ds)) : ∃ vs, H a = some (.lst vs) ∧ RDs K p H ds vs := by
  obtain ⟨x, ex, vs, rfl, rs⟩ := hs.get n a _ ea h
  exact ⟨vs, ex, rs⟩
theorem pr_add : Prim2 (gX X) W (fun x y H Q => rI0 (fun i j => .int (i + j)) x y H Q ∨ rCatA X.K x y H Q ∨ (∃ i j, x = .str i ∧ y = .str j ∧ i.length + j.length ≤ sizeLine ∧ Q (.str (i ++ j)) H) ∨ rCat x y H Q) opAdd := by
  intro p S H x y v u Q hs rx ry q
  cases x <;> cases y <;> try exact q.elim
  · exact .inl ⟨_, _, rx, ry, post_ok q hs _ rfl⟩
  · rename_i a b
    simp only [opAdd] at q
    split at q
    · rename_i hz
      exact .inr (.inr (.inl ⟨_, _, rx, ry, hz, post_ok q hs _ rfl⟩))
    · exact q.elim
  · rename_i a b
    obtain ⟨x1, xs, rfl, e1, r1⟩ := rx
    obtain ⟨y1, ys, rfl, e2, r2⟩ := ry
    simp only [opAdd] at q
    split at q
    · rename_i hz
      have hr : RDs (gX X) p H (a ++ b) (xs ++ ys) := r1.append r2
      refine .inr (.inl ⟨x1, y1, xs, ys, rfl, rfl, e1, e2, by rw [← r1.length, ← r2.length]; exact hz, fun hx => ?_, fun hx hy => ?_, fun hx hy a' ha' => ?_⟩)
      · subst hx
        exact post_ok q hs _ ⟨y1, ys, rfl, e2, by simpa using hr⟩
      · subst hy
        exact post_ok q hs _ ⟨x1, xs, rfl, e1, by simpa using hr⟩
      · exact new_tup hs hr q ha'
    · exact q.elim
  · rename_i n m
    obtain ⟨a, ea, rfl⟩ := rx
    obtain ⟨b, eb, rfl⟩ := ry
    simp only [opAdd] at q
    split at q
    · rename_i da db h1 h2
      obtain ⟨va, e1, r1⟩ := lst_at hs ea h1
      obtain ⟨vb, e2, r2⟩ := lst_at hs eb h2
      split at q
      · rename_i hz
        exact .inr (.inr (.inr ⟨a, b, va, vb, rfl, rfl, e1, e2, by rw [← r1.length, ← r2.length]; exact hz, fun c hc => new_obj hs (o := .lst (da ++ db)) ⟨_, rfl, r1.append r2⟩ q hc⟩))
      · exact q.elim
    · exact q.elim
theorem or_add : OpR X (binaryOp .Add) (fun x y H Q => rI0 (fun i j => .int (i + j)) x y H Q ∨ rCatA X.K x y H Q ∨ (∃ i j, x = .str i ∧ y = .str j ∧ i.length + j.length ≤ sizeLine ∧ Q (.str (i ++ j)) H) ∨ rCat x y H Q) := op_add.or (op_catA.or (op_add_str.or op_cat))
theorem pr_iadd {K : KX} : Prim2 K W (rI0 fun i j => .int (i + j)) (opI fun i j => i + j) := pr_int (f := fun i j => .int (i + j)) fun _ _ _ _ _ => rfl

/-! ### equality -/
mutual
def toPyW (f : Nat → Option PyData) : D → Option PyData
  | .non => some .none
  | .bl b => some (.bool b)
  | .int i => some (.int i)
  | .str x => some (.str x)
  | .tup ds => (toPysW f ds).map .tuple
  | .ref n => f n
  | .raw _ => none
  | .rl ns => some (.list (ns.map .int))
def toPysW (f : Nat → Option PyData) : List D → Option (List PyData)
  | [] => some []
  | d :: ds => (toPyW f d).bind fun x => (toPysW f ds).map (x :: ·)
end
def listPy (f : Nat → Option PyData) (S : Sto) (n : Nat) : Option PyData := match S[n]? with
  | some (.lst ds) => (toPysW f ds).map .list
  | _ => none
def toPy (S : Sto) : D → Option PyData := toPyW (listPy (fun _ => none) S)
mutual
theorem toPyW_read {K : KX} {p : List Addr} {H : Hp} {f : Nat → Option PyData} (hf : ∀ n pd a, f n = some pd → p[n]? = some a → Dp K H (.ref a) pd) : ∀ {d : D} {v : V} {pd : PyData}, RD K p H d v → toPyW f d = some pd → Dp K H v pd
  | .non, v, pd, r, h => by cases h; cases r; exact .non
  | .bl b, v, pd, r, h => by cases h; cases r; exact .bl b
  | .int i, v, pd, r, h => by cases h; cases r; exact .int i
  | .str x, v, pd, r, h => by cases h; cases r; exact .str x
  | .raw u, v, pd, r, h => by cases h
  | .rl ns, v, pd, r, h => by
    obtain ⟨a, rfl, e⟩ := r
    cases h
    refine .lst e.sq ?_
    clear e
    induction ns with
    | nil => exact .nil
    | cons n ns ih => exact .cons (.int n) ih
  | .ref n, v, pd, r, h => by
    obtain ⟨a, e, rfl⟩ := r
    exact hf n pd a h e
  | .tup ds, v, pd, r, h => by
    obtain ⟨a, vs, rfl, e, rs⟩ := r
    unfold toPyW at h
    cases hq : toPysW f ds with
    | none => rw [hq] at h; cases h
    | some pds =>
      rw [hq] at h
      cases h
      exact .tup e (toPysW_read hf rs hq)
theorem toPysW_read {K : KX} {p : List Addr} {H : Hp} {f : Nat → Option PyData} (hf : ∀ n pd a, f n = some pd → p[n]? = some a → Dp K H (.ref a) pd) : ∀ {ds : List D} {vs : List V} {pds : List PyData}, RDs K p H ds vs → toPysW f ds = some pds → DpAll K H vs pds
  | [], vs, pds, r, h => by cases h; cases r; exact .nil
  | d :: ds, vs, pds, r, h => by
    obtain ⟨v, us, rfl, r1, r2⟩ := r
    unfold toPysW at h
    cases h1 : toPyW f d with
    | none => rw [h1] at h; cases h
    | some x =>
      rw [h1] at h
      cases h2 : toPysW f ds with
      | none => rw [h2] at h; cases h
      | some xs =>
        rw [h2] at h
        cases h
        exact .cons (toPyW_read hf r1 h1) (toPysW_read hf r2 h2)
end
theorem listPy_read {K : KX} {p : List Addr} {S : Sto} {H : Hp} (hs : RS K p S H) {f : Nat → Option PyData} (hf : ∀ n pd a, f n = some pd → p[n]? = some a → Dp K H (.ref a) pd) (n : Nat) (pd : PyData) (a : Addr) (h : listPy f S n = some pd) (ea : p[n]? = some a) : Dp K H (.ref a) pd := by
  unfold listPy at h
  split at h
  · rename_i ds hd
    obtain ⟨x, ex, vs, rfl, rs⟩ := hs.get n a _ ea hd
    cases hq : toPysW f ds with
    | none => rw [hq] at h; cases h
    | some pds =>
      rw [hq] at h
      cases h
      exact .lst (.of ex) (toPysW_read hf rs hq)
  · cases h
theorem toPy_read {K : KX} {p : List Addr} {S : Sto} {H : Hp} {d : D} {v : V} {pd : PyData} (hs : RS K p S H) (r : RD K p H d v) (h : toPy S d = some pd) : Dp K H v pd :=
  toPyW_read (fun n pd a h e => listPy_read hs (fun _ _ _ z => by cases z) n pd a h e) r h
/-- == of two flat data of one sort -/
def flatEq : D → D → Option Bool
  | .int i, .int j => some (decide (i = j))
  | .str a, .str b => some (decide (a = b))
  | .bl a, .bl b => some (decide (a = b))
  | .non, .non => some true
  | _, _ => none
def eqD (S : Sto) (x y : D) : Option Bool := match flatEq x y with
  | some b => some b
  | none => match toPy S x, toPy S y with
    | some a, some b => if SeqAt.shaped a && SeqAt.shaped b then some (PyData.eqv a b) else none
    | _, _ => none
def opEq (x y : D) (S : Sto) : Rs D := match eqD S x y with
  | some b => .ok (.bl b) S
  | none => .bad
def opNe (x y : D) (S : Sto) : Rs D := match eqD S x y with
  | some b => .ok (.bl (!b)) S
  | none => .bad
theorem flatEq_read {K : KX} {p : List Addr} {H : Hp} {x y : D} {v u : V} {b : Bool} (rx : RD K p H x v) (ry : RD K p H y u) (h : flatEq x y = some b) : scal v u = true ∧ decide (v = u) = b := by
  cases x <;> cases y <;> first
    | (cases h; done)
    | (cases h; cases rx; cases ry; exact ⟨rfl, by simp⟩)
theorem eqD_read {K : KX} {p : List Addr} {S : Sto} {H : Hp} {x y : D} {v u : V} {b : Bool} (hs : RS K p S H) (rx : RD K p H x v) (ry : RD K p H y u) (h : eqD S x y = some b) :
    (scal v u = true ∧ decide (v = u) = b) ∨ ∃ d e, Dp K H v d ∧ Dp K H u e ∧ SeqAt.shaped d = true ∧ SeqAt.shaped e = true ∧ PyData.eqv d e = b := by
  unfold eqD at h
  split at h
  · rename_i c hc
    cases h
    exact .inl (flatEq_read rx ry hc)
  · split at h
    · rename_i a b' h1 h2
      split at h
      · rename_i hsh
        rw [Bool.and_eq_true] at hsh
        cases h
        exact .inr ⟨a, b', toPy_read hs rx h1, toPy_read hs ry h2, hsh.1, hsh.2, rfl⟩
      · cases h
    · cases h
theorem pr_eq : Prim2 (gX X) W (fun x y H Q => rEq x y H Q ∨ rEqD X.K x y H Q) opEq := by
  intro p S H x y v u Q hs rx ry q
  unfold opEq at q
  split at q
  · rename_i b hb
    have q' := post_ok q hs
    rcases eqD_read hs rx ry hb with ⟨h1, h2⟩ | ⟨d, e, h1, h2, h3, h4, h5⟩
    · exact .inl ⟨h1, by rw [h2]; exact q' _ rfl⟩
    · exact .inr ⟨d, e, h1, h2, h3, h4, by rw [h5]; exact q' _ rfl⟩
  · exact q.elim
theorem pr_ne : Prim2 (gX X) W (fun x y H Q => rNe x y H Q ∨ rNeD X.K x y H Q) opNe := by
  intro p S H x y v u Q hs rx ry q
  unfold opNe at q
  split at q
  · rename_i b hb
    have q' := post_ok q hs
    rcases eqD_read hs rx ry hb with ⟨h1, h2⟩ | ⟨d, e, h1, h2, h3, h4, h5⟩
    · exact .inl ⟨h1, by rw [h2]; exact q' _ rfl⟩
    · exact .inr ⟨d, e, h1, h2, h3, h4, by rw [h5]; exact q' _ rfl⟩
  · exact q.elim
theorem or_eq (hu : X.A.units + 64 < cLine) : OpR X (compareOp .Eq) (fun x y H Q => rEq x y H Q ∨ rEqD X.K x y H Q) := op_eq.or (op_eqD hu)
theorem or_ne (hu : X.A.units + 64 < cLine) : OpR X (compareOp .NotEq) (fun x y H Q => rNe x y H Q ∨ rNeD X.K x y H Q) := op_ne.or (op_neD hu)

/-! ### in, not in -/
def flatD : D → Bool
  | .non => true
  | .bl _ => true
  | .int _ => true
  | .str _ => true
  | _ => false
def eqF : D → D → Bool
  | .non, .non => true
  | .bl a, .bl b => a == b
  | .bl a, .int b => (if a then 1 else 0) == b
  | .int a, .bl b => a == (if b then 1 else 0)
  | .int a, .int b => a == b
  | .str a, .str b => a == b
  | _, _ => false
def inF (x : D) (ds : List D) : Option Bool := if flatD x && ds.all flatD then some (ds.any fun y => eqF y x) else none
def inD (S : Sto) (x y : D) : Option Bool := match y with
  | .tup ds => inF x ds
  | .rl ns => inF x (ns.map .int)
  | .ref n => match S[n]? with
    | some (.lst ds) => inF x ds
    | some (.dk kvs) => (toKey x).map fun k => (getK kvs k).isSome
    | some (.fd kvs) => (toKey x).map fun k => (getK kvs k).isSome
    | _ => none
  | _ => none
def opIn (x y : D) (S : Sto) : Rs D := match inD S x y with
  | some b => .ok (.bl b) S
  | none => .bad
def opNotIn (x y : D) (S : Sto) : Rs D := match inD S x y with
  | some b => .ok (.bl (!b)) S
  | none => .bad
theorem eqF_read {K : KX} {p : List Addr} {H : Hp} {x y : D} {v u : V} (rx : RD K p H x v) (ry : RD K p H y u) (fx : flatD x = true) (fy : flatD y = true) : flatV v = true ∧ flatV u = true ∧ eqV v u = eqF x y := by
  cases x <;> cases y <;> first
    | (cases fx; done)
    | (cases fy; done)
    | (cases rx; cases ry; exact ⟨rfl, rfl, rfl⟩)
theorem flat_read {K : KX} {p : List Addr} {H : Hp} {x : D} {v : V} (rx : RD K p H x v) (fx : flatD x = true) : flatV v = true := by
  cases x <;> first
    | (cases fx; done)
    | (cases rx; rfl)
theorem inF_read {K : KX} {p : List Addr} {H : Hp} {x : D} {v : V} {b : Bool} (rx : RD K p H x v) : ∀ {ds : List D} {vs : List V}, RDs K p H ds vs → inF x ds = some b → flatV v = true ∧ vs.all flatV = true ∧ inV v vs = b := by
  intro ds vs rs h
  unfold inF at h
  split at h
  · rename_i hf
    rw [Bool.and_eq_true] at hf
    cases h
    refine ⟨flat_read rx hf.1, ?_⟩
    obtain ⟨fx, hall⟩ := hf
    induction ds generalizing vs with
    | nil => cases rs; exact ⟨rfl, rfl⟩
    | cons d ds ih =>
      obtain ⟨w, us, rfl, r1, r2⟩ := rs
      rw [List.all_cons, Bool.and_eq_true] at hall
      obtain ⟨i1, i2⟩ := ih r2 hall.2
      obtain ⟨f1, f2, f3⟩ := eqF_read r1 rx hall.1 fx
      refine ⟨by rw [List.all_cons, f1, i1]; rfl, ?_⟩
      unfold inV at i2 ⊢
      rw [List.any_cons, List.any_cons, f3, i2]
  · cases h
/-- a dict of the store, open or locked -/
theorem dk_at {K : KX} {p : List Addr} {S : Sto} {H : Hp} {n : Nat} {a : Addr} {kvs : List (Key × D)} (hs : RS K p S H) (ea : p[n]? = some a) (h : S[n]? = some (.dk kvs) ∨ S[n]? = some (.fd kvs)) : ∃ ws, Rd H a (.dK ws) ∧ RKs K p H kvs ws := by
  rcases h with h | h
  · obtain ⟨x, ex, ws, rfl, rk⟩ := hs.get n a _ ea h
    exact ⟨ws, .inl ex, rk⟩
  · obtain ⟨x, ex, ob, ws, rfl, rk⟩ := hs.get n a _ ea h
    exact ⟨ws, .inr ⟨ob, ex⟩, rk⟩
theorem dget_at {K : KX} {p : List Addr} {S : Sto} {H : Hp} {n : Nat} {a : Addr} {kvs : List (Key × D)} {d : D} {v : V} {k : Key} (hs : RS K p S H) (ea : p[n]? = some a) (h : S[n]? = some (.dk kvs) ∨ S[n]? = some (.fd kvs)) (r : RD K p H d v) (hk : toKey d = some k) :
    ∃ ws, DGet H a v (valV ws k) ∧ RKs K p H kvs ws := by
  obtain ⟨ws, rd, rk⟩ := dk_at hs ea h
  exact ⟨ws, .inl ⟨ws, k, rd, toKey_read r hk, rfl⟩, rk⟩
theorem val_isSome {K : KX} {p : List Addr} {H : Hp} {kvs : List (Key × D)} {ws : List (Key × V)} {k : Key} (rk : RKs K p H kvs ws) : (valV ws k).isSome = (getK kvs k).isSome := by
  obtain ⟨h1, h2⟩ := rk.val (k := k)
  cases hq : getK kvs k with
  | none => rw [h2 hq]; rfl
  | some d => obtain ⟨v, e, _⟩ := h1 d hq; rw [e]; rfl
def rDIn (neg : Bool) : R2 := fun y x H Q => ∃ a o, x = .ref a ∧ DGet H a y o ∧ Q (.bl (if neg then !o.isSome else o.isSome)) H
theorem op_in_dict (hu : X.A.units + 1 < cLine) : OpR X (compareOp .In) (rDIn false) := by
  intro pins s σ H y x u v Q I ry rx h
  obtain ⟨a, o, rfl, g, q⟩ := h
  obtain rfl : v = Value.ref a := rx
  exact d_in hu I g ry fun s3 I3 => ⟨.bl o.isSome, H, I3, rfl, q⟩
theorem op_notin_dict (hu : X.A.units + 1 < cLine) : OpR X (compareOp .NotIn) (rDIn true) := by
  intro pins s σ H y x u v Q I ry rx h
  obtain ⟨a, o, rfl, g, q⟩ := h
  obtain rfl : v = Value.ref a := rx
  exact d_notIn hu I g ry fun s3 I3 => ⟨.bl (!o.isSome), H, I3, rfl, q⟩
theorem rds_ints {K : KX} {p : List Addr} {H : Hp} : ∀ ns : List Int, RDs K p H (ns.map .int) (ns.map V.int)
  | [] => rfl
  | n :: ns => ⟨_, _, rfl, rfl, rds_ints ns⟩
theorem inD_read {p : List Addr} {S : Sto} {H : Hp} {x y : D} {v u : V} {b : Bool} (neg : Bool) {Q : VK} (hs : RS (gX X) p S H) (rx : RD (gX X) p H x v) (ry : RD (gX X) p H y u) (h : inD S x y = some b) (q : Q (.bl (if neg then !b else b)) H) : rIn X.K neg v u H Q ∨ rDIn neg v u H Q := by
  unfold inD at h
  cases y with
  | tup ds =>
    obtain ⟨a, vs, rfl, e, rs⟩ := ry
    obtain ⟨h1, h2, h3⟩ := inF_read rx rs h
    exact .inl ⟨a, vs, rfl, .inr e, h1, h2, by rw [h3]; exact q⟩
  | rl ns =>
    obtain ⟨a, rfl, e⟩ := ry
    obtain ⟨h1, h2, h3⟩ := inF_read rx (rds_ints ns) h
    exact .inl ⟨a, _, rfl, .inl e.sq, h1, h2, by rw [h3]; exact q⟩
  | ref n =>
    obtain ⟨a, ea, rfl⟩ := ry
    simp only at h
    split at h
    · rename_i ds hd
      obtain ⟨vs, ex, rs⟩ := lst_at hs ea hd
      obtain ⟨h1, h2, h3⟩ := inF_read rx rs h
      exact .inl ⟨a, vs, rfl, .inl (.of ex), h1, h2, by rw [h3]; exact q⟩
    · rename_i kvs hd
      cases hk : toKey x with
      | none => rw [hk] at h; cases h
      | some k =>
        rw [hk] at h
        cases h
        obtain ⟨ws, g, rk⟩ := dget_at hs ea (.inl hd) rx hk
        exact .inr ⟨a, _, rfl, g, by rw [val_isSome rk]; exact q⟩
    · rename_i kvs hd
      cases hk : toKey x with
      | none => rw [hk] at h; cases h
      | some k =>
        rw [hk] at h
        cases h
        obtain ⟨ws, g, rk⟩ := dget_at hs ea (.inr hd) rx hk
        exact .inr ⟨a, _, rfl, g, by rw [val_isSome rk]; exact q⟩
    · cases h
  | _ => cases h
theorem pr_in : Prim2 (gX X) W (fun x y H Q => rIn X.K false x y H Q ∨ rDIn false x y H Q) opIn := by
  intro p S H x y v u Q hs rx ry q
  unfold opIn at q
  split at q
  · rename_i b hb
    exact inD_read false hs rx ry hb (post_ok q hs _ rfl)
  · exact q.elim
theorem pr_notin : Prim2 (gX X) W (fun x y H Q => rIn X.K true x y H Q ∨ rDIn true x y H Q) opNotIn := by
  intro p S H x y v u Q hs rx ry q
  unfold opNotIn at q
  split at q
  · rename_i b hb
    exact inD_read true hs rx ry hb (post_ok q hs _ rfl)
  · exact q.elim
theorem or_in (hu : X.A.units + 1 < cLine) : OpR X (compareOp .In) (fun x y H Q => rIn X.K false x y H Q ∨ rDIn false x y H Q) := op_in_seq.or (op_in_dict hu)
theorem or_notin (hu : X.A.units + 1 < cLine) : OpR X (compareOp .NotIn) (fun x y H Q => rIn X.K true x y H Q ∨ rDIn true x y H Q) := op_notIn_seq.or (op_notin_dict hu)
/-- is None -/
def opIsN (neg : Bool) (x y : D) (S : Sto) : Rs D := match y with
  | .non => match x with
    | .non => .ok (.bl (!neg)) S
    | .raw _ => .bad
    | _ => .ok (.bl neg) S
  | _ => .bad
theorem isN_read {K : KX} {p : List Addr} {H : Hp} {x : D} {v : V} (r : RD K p H x v) (hx : ∀ u, x ≠ .raw u) : (v = V.non ↔ x = .non) := by
  cases x with
  | non => cases r; simp
  | raw u => exact absurd rfl (hx u)
  | tup ds => obtain ⟨a, vs, rfl, _⟩ := r; simp
  | ref n => obtain ⟨a, _, rfl⟩ := r; simp
  | rl ns => obtain ⟨a, rfl, _⟩ := r; simp
  | _ => cases r; simp
theorem pr_isN {K : KX} : Prim2 K W (fun x y H Q => y = .non ∧ Q (.bl (decide (x = .non))) H) (opIsN false) := by
  intro p S H x y v u Q hs rx ry q
  unfold opIsN at q
  cases y <;> try exact q.elim
  refine ⟨ry, ?_⟩
  cases x with
  | raw u => exact q.elim
  | non => cases rx; exact post_ok q hs _ rfl
  | _ => rw [decide_eq_false (fun z => by have := (isN_read rx (by simp)).mp z; cases this)]; exact post_ok q hs _ rfl
theorem pr_notN {K : KX} : Prim2 K W (fun x y H Q => y = .non ∧ Q (.bl (!decide (x = .non))) H) (opIsN true) := by
  intro p S H x y v u Q hs rx ry q
  unfold opIsN at q
  cases y <;> try exact q.elim
  refine ⟨ry, ?_⟩
  cases x with
  | raw u => exact q.elim
  | non => cases rx; exact post_ok q hs _ rfl
  | _ => rw [decide_eq_false (fun z => by have := (isN_read rx (by simp)).mp z; cases this)]; exact post_ok q hs _ rfl

/-! ### subscripts -/
def opIx (x i : D) (S : Sto) : Rs D := match x with
  | .tup ds => match i with
    | .int i => match atI ds i with
      | some d => .ok d S
      | none => .bad
    | _ => .bad
  | .str z => match i with
    | .int i => if z.length ≤ sizeLine then (match atI z.cps.toList i with
      | some c => .ok (.str ⟨#[c]⟩) S
      | none => .bad) else .bad
    | _ => .bad
  | .ref n => match S[n]? with
    | some (.lst ds) => match i with
      | .int i => match atI ds i with
        | some d => .ok d S
        | none => .bad
      | _ => .bad
    | some (.dk kvs) => match (toKey i).bind (getK kvs) with
      | some d => .ok d S
      | none => .bad
    | some (.fd kvs) => match (toKey i).bind (getK kvs) with
      | some d => .ok d S
      | none => .bad
    | _ => .bad
  | .rl ns => match i with
    | .int i => match atI ns i with
      | some d => .ok (.int d) S
      | none => .bad
    | _ => .bad
  | _ => .bad
def rDIx : R2 := fun x y H Q => ∃ a v, x = .ref a ∧ DGet H a y (some v) ∧ Q v H
theorem ix_dict (hu : X.A.units + 1 < cLine) : IxR X rDIx := by
  intro value slice pins s σ H x y v u Q I rx ry h hs
  obtain ⟨a, w, rfl, g, q⟩ := h
  obtain rfl : v = Value.ref a := rx
  exact PyProof.Rows.tail_any (dict_typeIs I g) PySem.F.slot_dict_getitem.lookup (d_getItem hu I g ry fun w' s3 I3 rw' => ⟨w, H, I3, rw', q⟩) hs
theorem or_ix (hu : X.A.units + 1 < cLine) : IxR X (fun x y H Q => rIx X.K x y H Q ∨ rDIx x y H Q) := ix_seq.or (ix_dict hu)
theorem atI_read {K : KX} {p : List Addr} {H : Hp} {ds : List D} {vs : List V} {i : Int} {d : D} (r : RDs K p H ds vs) (h : atI ds i = some d) : ∃ v, atI vs i = some v ∧ RD K p H d v := by
  unfold atI at h ⊢
  rw [r.length] at h
  cases hq : ixN vs.length i with
  | none => rw [hq] at h; cases h
  | some j =>
    rw [hq] at h
    exact r.get h
theorem pr_ix : Prim2 (gX X) W (fun x y H Q => rIx X.K x y H Q ∨ rDIx x y H Q) opIx := by
  intro p S H x y v u Q hs rx ry q
  unfold opIx at q
  cases x with
  | tup ds =>
    obtain ⟨a, vs, rfl, e, rs⟩ := rx
    cases y <;> try exact q.elim
    simp only at q
    split at q
    · rename_i d hd
      obtain ⟨w, hw, rw'⟩ := atI_read rs hd
      exact .inl (.inr (.inl ⟨a, vs, _, w, rfl, ry, e, hw, post_ok q hs _ rw'⟩))
    · exact q.elim
  | str z =>
    cases y <;> try exact q.elim
    simp only at q
    split at q
    · rename_i hz
      split at q
      · rename_i c hc
        exact .inl (.inr (.inr ⟨z, _, c, rx, ry, hz, hc, post_ok q hs _ rfl⟩))
      · exact q.elim
    · exact q.elim
  | ref n =>
    obtain ⟨a, ea, rfl⟩ := rx
    simp only at q
    split at q
    · rename_i ds hd
      obtain ⟨vs, ex, rs⟩ := lst_at hs ea hd
      cases y <;> try exact q.elim
      simp only at q
      split at q
      · rename_i d hd
        obtain ⟨w, hw, rw'⟩ := atI_read rs hd
        exact .inl (.inl ⟨a, vs, _, w, rfl, ry, .of ex, hw, post_ok q hs _ rw'⟩)
      · exact q.elim
    · rename_i kvs hd
      split at q
      · rename_i d hg
        obtain ⟨k, hk, hv⟩ := Option.bind_eq_some_iff.mp hg
        obtain ⟨ws, g, rk⟩ := dget_at hs ea (.inl hd) ry hk
        obtain ⟨w, hw, rw'⟩ := (rk.val (k := k)).1 d hv
        rw [hw] at g
        exact .inr ⟨a, w, rfl, g, post_ok q hs _ rw'⟩
      · exact q.elim
    · rename_i kvs hd
      split at q
      · rename_i d hg
        obtain ⟨k, hk, hv⟩ := Option.bind_eq_some_iff.mp hg
        obtain ⟨ws, g, rk⟩ := dget_at hs ea (.inr hd) ry hk
        obtain ⟨w, hw, rw'⟩ := (rk.val (k := k)).1 d hv
        rw [hw] at g
        exact .inr ⟨a, w, rfl, g, post_ok q hs _ rw'⟩
      · exact q.elim
    · exact q.elim
  | rl ns =>
    obtain ⟨a, rfl, e⟩ := rx
    cases y <;> try exact q.elim
    rename_i iy
    simp only at q
    split at q
    · rename_i d hd
      have hd' : atI (ns.map D.int) iy = some (.int d) := by
        unfold atI at hd ⊢
        rw [List.length_map]
        cases hq : ixN ns.length iy with
        | none => rw [hq] at hd; cases hd
        | some j => rw [hq] at hd; simpa using hd
      obtain ⟨w, hw, rw'⟩ := atI_read (rds_ints ns) hd'
      exact .inl (.inl ⟨a, _, _, w, rfl, ry, e.sq, hw, post_ok q hs _ rw'⟩)
    · exact q.elim
  | _ => exact q.elim
end
end M

namespace M
open PySem L2
section
variable {X : Cx} {W : XW}
/-! ### len, int, max, min, sum, tuple -/
def fLen (ds : List D) (S : Sto) : Rs D := match ds with
  | [d] => match d with
    | .tup xs => .ok (.int xs.length) S
    | .rl ns => .ok (.int ns.length) S
    | .str z => if z.length ≤ sizeLine then .ok (.int z.length) S else .bad
    | .ref n => match S[n]? with
      | some (.lst xs) => .ok (.int xs.length) S
      | some (.dk kvs) => .ok (.int kvs.length) S
      | some (.fd kvs) => .ok (.int kvs.length) S
      | _ => .bad
    | _ => .bad
  | _ => .bad
def rLen (K : PySem.W.Frag) : List V → Hp → VK → Prop := fun xs H Q => (∃ p ys, xs = [.ref p] ∧ (SqL K H p ys ∨ SqT K H p ys) ∧ Q (.int ys.length) H) ∨ (∃ z, xs = [.str z] ∧ z.length ≤ sizeLine ∧ Q (.int z.length) H) ∨ (∃ a kvs, xs = [V.ref a] ∧ Rd H a (.dK kvs) ∧ Q (.int kvs.length) H)
theorem call_lenR : CallR X (.builtin "len") (fun xs H Q => ∃ a kvs, xs = [V.ref a] ∧ Rd H a (.dK kvs) ∧ Q (.int kvs.length) H) := by
  intro pins s σ H xs us Q I r h
  obtain ⟨a, kvs, rfl, ha, q⟩ := h
  obtain ⟨u, rfl, ru⟩ := vals1 r
  cases ru
  exact d_len I ha fun t s' I' => ⟨.int kvs.length, H, I', ⟨t, rfl⟩, q⟩
theorem cr_len : CallR X (.builtin "len") (rLen X.K) := call_len_seq.or (call_len_str.or call_lenR)
theorem one_of {K : KX} {p : List Addr} {H : Hp} {d : D} {vs : List V} (r : RDs K p H [d] vs) : ∃ v, vs = [v] ∧ RD K p H d v := by
  obtain ⟨v, us, rfl, h1, h2⟩ := r
  cases h2
  exact ⟨v, rfl, h1⟩
theorem two_of {K : KX} {p : List Addr} {H : Hp} {d e : D} {vs : List V} (r : RDs K p H [d, e] vs) : ∃ v u, vs = [v, u] ∧ RD K p H d v ∧ RD K p H e u := by
  obtain ⟨v, us, rfl, h1, h2⟩ := r
  obtain ⟨u, rfl, h3⟩ := one_of h2
  exact ⟨v, u, rfl, h1, h3⟩
theorem pr_len : PrimN (gX X) W (rLen X.K) fLen := by
  intro p S H xs vs Q hs r q
  unfold fLen at q
  split at q
  · rename_i d
    obtain ⟨v, rfl, rv⟩ := one_of r
    split at q
    · obtain ⟨a, us, rfl, e, rs⟩ := rv
      exact .inl ⟨a, us, rfl, .inr e, by rw [← rs.length]; exact post_ok q hs _ rfl⟩
    · obtain ⟨a, rfl, e⟩ := rv
      exact .inl ⟨a, _, rfl, .inl e.sq, by rw [List.length_map]; exact post_ok q hs _ rfl⟩
    · rename_i z
      split at q
      · rename_i hz
        obtain rfl : v = V.str z := rv
        exact .inr (.inl ⟨z, rfl, hz, post_ok q hs _ rfl⟩)
      · exact q.elim
    · obtain ⟨a, ea, rfl⟩ := rv
      split at q
      · rename_i ds hd
        obtain ⟨us, ex, rs⟩ := lst_at hs ea hd
        exact .inl ⟨a, us, rfl, .inl (.of ex), by rw [← rs.length]; exact post_ok q hs _ rfl⟩
      · rename_i kvs hd
        obtain ⟨ws, ex, rk⟩ := dk_at hs ea (.inl hd)
        exact .inr (.inr ⟨a, ws, rfl, ex, by rw [← rk.length]; exact post_ok q hs _ rfl⟩)
      · rename_i kvs hd
        obtain ⟨ws, ex, rk⟩ := dk_at hs ea (.inr hd)
        exact .inr (.inr ⟨a, ws, rfl, ex, by rw [← rk.length]; exact post_ok q hs _ rfl⟩)
      · exact q.elim
    · exact q.elim
  · exact q.elim
def fLenTL (ds : List D) (S : Sto) : Rs D := .ok (.int ds.length) S
theorem pr_lenTL : PrimTL (gX X) W (rLen X.K) fLenTL := by
  intro p S H ds vs a Q hs r ha hz q
  exact .inl ⟨a, vs, rfl, .inl (.of upd_same), by rw [← r.length]; exact q p _ (Ext.new ha) (hs.frame ha) _ rfl⟩
def fInt (ds : List D) (S : Sto) : Rs D := match ds with
  | [.int i] => .ok (.int i) S
  | [.bl b] => .ok (.int (if b then 1 else 0)) S
  | _ => .bad
theorem pr_int1 {K : KX} : PrimN K W (fun xs H Q => (∃ i, xs = [.int i] ∧ Q (.int i) H) ∨ ∃ k, xs = [.bl k] ∧ Q (.int (if k then 1 else 0)) H) fInt := by
  intro p S H xs vs Q hs r q
  unfold fInt at q
  split at q
  · obtain ⟨v, rfl, rv⟩ := one_of r
    obtain rfl := rv
    exact .inl ⟨_, rfl, post_ok q hs _ rfl⟩
  · obtain ⟨v, rfl, rv⟩ := one_of r
    obtain rfl := rv
    exact .inr ⟨_, rfl, post_ok q hs _ rfl⟩
  · exact q.elim
def fMax2 (ds : List D) (S : Sto) : Rs D := match ds with
  | [.int i, .int j] => .ok (.int (if j > i then j else i)) S
  | _ => .bad
def fMin2 (ds : List D) (S : Sto) : Rs D := match ds with
  | [.int i, .int j] => .ok (.int (if j < i then j else i)) S
  | _ => .bad
theorem pr_max2 {K : KX} : PrimN K W (fun xs H Q => ∃ i j, xs = [.int i, .int j] ∧ Q (.int (if j > i then j else i)) H) fMax2 := by
  intro p S H xs vs Q hs r q
  unfold fMax2 at q
  split at q
  · obtain ⟨v, u, rfl, rv, ru⟩ := two_of r
    obtain rfl := rv
    obtain rfl := ru
    exact ⟨_, _, rfl, post_ok q hs _ rfl⟩
  · exact q.elim
theorem pr_min2 {K : KX} : PrimN K W (fun xs H Q => ∃ i j, xs = [.int i, .int j] ∧ Q (.int (if j < i then j else i)) H) fMin2 := by
  intro p S H xs vs Q hs r q
  unfold fMin2 at q
  split at q
  · obtain ⟨v, u, rfl, rv, ru⟩ := two_of r
    obtain rfl := rv
    obtain rfl := ru
    exact ⟨_, _, rfl, post_ok q hs _ rfl⟩
  · exact q.elim
/-- the ints of a list of data -/
def toInts : List D → Option (List Int)
  | [] => some []
  | .int i :: r => (toInts r).map (i :: ·)
  | _ :: _ => none
theorem toInts_map : ∀ ns : List Int, toInts (ns.map .int) = some ns
  | [] => rfl
  | n :: ns => by rw [List.map_cons, toInts, toInts_map ns]; rfl
theorem toInts_eq : ∀ {ds : List D} {ns : List Int}, toInts ds = some ns → ds = ns.map .int
  | [], ns, h => by cases h; rfl
  | d :: r, ns, h => by
    cases d with
    | int i =>
      rw [toInts] at h
      cases hq : toInts r with
      | none => rw [hq] at h; cases h
      | some ms =>
        rw [hq] at h
        cases h
        rw [List.map_cons, toInts_eq hq]
    | _ => cases h
theorem ints_read {K : KX} {p : List Addr} {H : Hp} : ∀ {ns : List Int} {vs : List V}, RDs K p H (ns.map .int) vs → vs = ns.map V.int
  | [], vs, h => h
  | n :: ns, vs, h => by
    obtain ⟨v, us, rfl, h1, h2⟩ := h
    rw [List.map_cons, ints_read h2]
    obtain rfl : v = V.int n := h1
    rfl
def fSum (ds : List D) (S : Sto) : Rs D := match toInts ds with
  | some ns => .ok (.int ns.sum) S
  | none => .bad
def fMin (ds : List D) (S : Sto) : Rs D := match toInts ds with
  | some (n :: ns) => .ok (.int (ns.foldl min n)) S
  | _ => .bad
def fMax (ds : List D) (S : Sto) : Rs D := match toInts ds with
  | some (n :: ns) => .ok (.int (ns.foldl max n)) S
  | _ => .bad
theorem foldl_min_spec : ∀ (ns : List Int) (n : Int), (∀ y ∈ n :: ns, ns.foldl min n ≤ y) ∧ ns.foldl min n ∈ n :: ns
  | [], n => by simp
  | m :: ns, n => by
    obtain ⟨h1, h2⟩ := foldl_min_spec ns (min n m)
    rw [List.foldl_cons]
    refine ⟨fun y hy => ?_, ?_⟩
    · have h3 := h1 (min n m) (List.mem_cons_self ..)
      rcases List.mem_cons.mp hy with rfl | hy
      · omega
      · rcases List.mem_cons.mp hy with rfl | hy
        · omega
        · exact h1 y (List.mem_cons_of_mem _ hy)
    · rcases List.mem_cons.mp h2 with e | e
      · rw [e]
        rcases Int.le_total n m with h | h
        · rw [Int.min_eq_left h]; simp
        · rw [Int.min_eq_right h]; simp
      · exact List.mem_cons_of_mem _ (List.mem_cons_of_mem _ e)
theorem foldl_max_spec : ∀ (ns : List Int) (n : Int), (∀ y ∈ n :: ns, y ≤ ns.foldl max n) ∧ ns.foldl max n ∈ n :: ns
  | [], n => by simp
  | m :: ns, n => by
    obtain ⟨h1, h2⟩ := foldl_max_spec ns (max n m)
    rw [List.foldl_cons]
    refine ⟨fun y hy => ?_, ?_⟩
    · have h3 := h1 (max n m) (List.mem_cons_self ..)
      rcases List.mem_cons.mp hy with rfl | hy
      · omega
      · rcases List.mem_cons.mp hy with rfl | hy
        · omega
        · exact h1 y (List.mem_cons_of_mem _ hy)
    · rcases List.mem_cons.mp h2 with e | e
      · rw [e]
        rcases Int.le_total n m with h | h
        · rw [Int.max_eq_right h]; simp
        · rw [Int.max_eq_left h]; simp
      · exact List.mem_cons_of_mem _ (List.mem_cons_of_mem _ e)
theorem pr_sumTL : PrimTL (gX X) W (rSum X.K) fSum := by
  intro p S H ds vs a Q hs r ha hz q
  unfold fSum at q
  split at q
  · rename_i ns hn
    rw [toInts_eq hn] at r
    rw [ints_read r]
    exact ⟨a, ns, rfl, .of upd_same, q p _ (Ext.new ha) (hs.frame ha) _ rfl⟩
  · exact q.elim
theorem pr_minTL : PrimTL (gX X) W (rMin X.K) fMin := by
  intro p S H ds vs a Q hs r ha hz q
  unfold fMin at q
  split at q
  · rename_i n ns hn
    rw [toInts_eq hn] at r
    rw [ints_read r]
    refine ⟨a, n :: ns, rfl, .of upd_same, by simp, fun m hm hall => ?_⟩
    obtain ⟨h1, h2⟩ := foldl_min_spec ns n
    have e : m = ns.foldl min n := Int.le_antisymm (hall _ h2) (h1 m hm)
    rw [e]
    exact q p _ (Ext.new ha) (hs.frame ha) _ rfl
  · exact q.elim
theorem pr_maxTL : PrimTL (gX X) W (rMax X.K) fMax := by
  intro p S H ds vs a Q hs r ha hz q
  unfold fMax at q
  split at q
  · rename_i n ns hn
    rw [toInts_eq hn] at r
    rw [ints_read r]
    refine ⟨a, n :: ns, rfl, .of upd_same, by simp, fun m hm hall => ?_⟩
    obtain ⟨h1, h2⟩ := foldl_max_spec ns n
    have e : m = ns.foldl max n := Int.le_antisymm (h1 m hm) (hall _ h2)
    rw [e]
    exact q p _ (Ext.new ha) (hs.frame ha) _ rfl
  · exact q.elim
/-- tuple(a fresh list) -/
def fTupTL (ds : List D) (S : Sto) : Rs D := .ok (.tup ds) S
theorem pr_tupTL : PrimTL (gX X) W (fun xs H Q => ∃ p ys, xs = [.ref p] ∧ ((SqL X.K H p ys ∧ ∀ l, H l = none → Q (.ref l) (upd H l (.tup ys))) ∨ (SqT X.K H p ys ∧ Q (.ref p) H))) fTupTL := by
  intro p S H ds vs a Q hs r ha hz q
  refine ⟨a, vs, rfl, .inl ⟨.of upd_same, fun l hl => ?_⟩⟩
  have x1 : Ext (gX X) p H p (upd H a (.lst vs)) := Ext.new ha
  exact new_tup (hs.frame ha) (r.mono x1.pre x1.tup) (post_base x1 q) hl
/-- tuple(x) of a list or tuple -/
def fTup (ds : List D) (S : Sto) : Rs D := match ds with
  | [.tup xs] => .ok (.tup xs) S
  | [.rl ns] => .ok (.tup (ns.map .int)) S
  | [.ref n] => match S[n]? with
    | some (.lst xs) => .ok (.tup xs) S
    | _ => .bad
  | _ => .bad
theorem pr_tup : PrimN (gX X) W (fun xs H Q => ∃ p ys, xs = [.ref p] ∧ ((SqL X.K H p ys ∧ ∀ l, H l = none → Q (.ref l) (upd H l (.tup ys))) ∨ (SqT X.K H p ys ∧ Q (.ref p) H))) fTup := by
  intro p S H xs vs Q hs r q
  unfold fTup at q
  split at q
  · obtain ⟨v, rfl, rv⟩ := one_of r
    obtain ⟨a, us, rfl, e, rs⟩ := rv
    exact ⟨a, us, rfl, .inr ⟨e, post_ok q hs _ ⟨a, us, rfl, e, rs⟩⟩⟩
  · obtain ⟨v, rfl, rv⟩ := one_of r
    obtain ⟨a, rfl, e⟩ := rv
    exact ⟨a, _, rfl, .inl ⟨e.sq, fun l hl => new_tup hs (rds_ints _) q hl⟩⟩
  · obtain ⟨v, rfl, rv⟩ := one_of r
    obtain ⟨a, ea, rfl⟩ := rv
    split at q
    · rename_i ds hd
      obtain ⟨us, ex, rs⟩ := lst_at hs ea hd
      exact ⟨a, us, rfl, .inl ⟨.of ex, fun l hl => new_tup hs rs q hl⟩⟩
    · exact q.elim
  · exact q.elim

/-! ### dicts -/
def m3 (f : D → D → D → Sto → Rs D) (ma mb mc : En → Sto → Rs D) : En → Sto → Rs D := fun E S => (ma E S).bind fun x S1 => (mb E S1).bind fun y S2 => (mc E S2).bind fun z S3 => f x y z S3
/-- d.get(k, x) -/
def fGet2 (x y z : D) (S : Sto) : Rs D := match x with
  | .ref n => match S[n]? with
    | some (.dk kvs) => match toKey y with
      | some k => .ok ((getK kvs k).getD z) S
      | none => .bad
    | some (.fd kvs) => match toKey y with
      | some k => .ok ((getK kvs k).getD z) S
      | none => .bad
    | _ => .bad
  | _ => .bad
/-- it is a dict -/
def isDk (S : Sto) (d : D) : Bool := match d with
  | .ref n => match S[n]? with
    | some (.dk _) => true
    | some (.fd _) => true
    | _ => false
  | _ => false
theorem isDk_read {K : KX} {p : List Addr} {S : Sto} {H : Hp} {d : D} {v : V} (hs : RS K p S H) (r : RD K p H d v) (h : isDk S d = true) : ∃ a, v = .ref a ∧ IsD H a := by
  unfold isDk at h
  split at h
  · obtain ⟨a, ea, rfl⟩ := r
    split at h
    · rename_i kvs hd
      obtain ⟨ws, rd, _⟩ := dk_at hs ea (.inl hd)
      exact ⟨a, rfl, .inl ⟨ws, rd⟩⟩
    · rename_i kvs hd
      obtain ⟨ws, rd, _⟩ := dk_at hs ea (.inr hd)
      exact ⟨a, rfl, .inl ⟨ws, rd⟩⟩
    · cases h
  · cases h
def mGet2 (ma mb mc : En → Sto → Rs D) : En → Sto → Rs D := fun E S => (ma E S).bind fun x S1 => if isDk S1 x then (mb E S1).bind fun y S2 => (mc E S2).bind fun z S3 => fGet2 x y z S3 else .bad
theorem getD_read {K : KX} {p : List Addr} {H : Hp} {kvs : List (Key × D)} {ws : List (Key × V)} {k : Key} {z : D} {u : V} (rk : RKs K p H kvs ws) (rz : RD K p H z u) : RD K p H ((getK kvs k).getD z) ((valV ws k).getD u) := by
  obtain ⟨h1, h2⟩ := rk.val (k := k)
  cases hq : getK kvs k with
  | none => rw [h2 hq]; exact rz
  | some d => obtain ⟨v, e, r⟩ := h1 d hq; rw [e]; exact r
theorem me_get2 {o e f : Expr} {apos cpos : Pos} {ma mb mc : En → Sto → Rs D} (hu : X.A.units + 1 < cLine) (ho : ME X W o ma) (he : ME X W e mb) (hf : ME X W f mc) (m : M2 X o "get" apos e f cpos) : ME X W (.Call (.Attribute o "get" apos) [e, f] [] cpos) (mGet2 ma mb mc) :=
  PE.imp (pe_dget2 hu ho he hf m) fun σ H Q q => by
    obtain ⟨p, S, E, hs, he, q⟩ := q
    refine lE_step hs he (post_mono (fun x S1 p1 H1 x1 hs1 q1 v rv => ?_) (post_bind q))
    split at q1
    · rename_i hd
      obtain ⟨a, rfl, hD⟩ := isDk_read hs1 rv hd
      refine ⟨a, rfl, hD, lE_step hs1 (he.mono x1.pre x1.tup) (post_mono (fun y S2 p2 H2 x2 hs2 q2 w rw' => ?_) (post_bind q1))⟩
      refine lE_step hs2 ((he.mono x1.pre x1.tup).mono x2.pre x2.tup) (post_mono (fun z S3 p3 H3 x3 hs3 q3 u ru => ?_) (post_bind q2))
      have rv3 := (rv.mono x2.pre x2.tup).mono x3.pre x3.tup
      have rw3 := rw'.mono x3.pre x3.tup
      unfold fGet2 at q3
      split at q3
      · rename_i n
        obtain ⟨b, eb, e1⟩ := rv3
        cases e1
        split at q3
        · rename_i kvs hk
          split at q3
          · rename_i k hkey
            obtain ⟨ws, g, rk⟩ := dget_at hs3 eb (.inl hk) rw3 hkey
            exact ⟨_, g, post_ok q3 hs3 _ (getD_read rk ru)⟩
          · exact q3.elim
        · rename_i kvs hk
          split at q3
          · rename_i k hkey
            obtain ⟨ws, g, rk⟩ := dget_at hs3 eb (.inr hk) rw3 hkey
            exact ⟨_, g, post_ok q3 hs3 _ (getD_read rk ru)⟩
          · exact q3.elim
        · exact q3.elim
      · exact q3.elim
    · exact q1.elim
/-- d.pop(k) -/
def fPop (x y : D) (S : Sto) : Rs D := match x with
  | .ref n => match S[n]? with
    | some (.dk kvs) => match toKey y with
      | some k => match getK kvs k with
        | some d => .ok d (S.set n (.dk (delK kvs k)))
        | none => .bad
      | none => .bad
    | _ => .bad
  | _ => .bad
def mPop (ma mb : En → Sto → Rs D) : En → Sto → Rs D := fun E S => (ma E S).bind fun x S1 => if isDk S1 x then (mb E S1).bind fun y S2 => fPop x y S2 else .bad
theorem me_pop {o e : Expr} {apos cpos : Pos} {ma mb : En → Sto → Rs D} (ho : ME X W o ma) (he : ME X W e mb) (m : M1 X o "pop" apos e cpos) : ME X W (.Call (.Attribute o "pop" apos) [e] [] cpos) (mPop ma mb) :=
  PE.imp (pe_dpop1 ho he m) fun σ H Q q => by
    obtain ⟨p, S, E, hs, he, q⟩ := q
    refine lE_step hs he (post_mono (fun x S1 p1 H1 x1 hs1 q1 v rv => ?_) (post_bind q))
    split at q1
    · rename_i hd
      obtain ⟨a, rfl, hD⟩ := isDk_read hs1 rv hd
      refine ⟨a, rfl, hD, lE_step hs1 (he.mono x1.pre x1.tup) (post_mono (fun y S2 p2 H2 x2 hs2 q2 w rw' => ?_) (post_bind q1))⟩
      have rv2 := rv.mono x2.pre x2.tup
      unfold fPop at q2
      split at q2
      · rename_i n
        obtain ⟨b, eb, e1⟩ := rv2
        cases e1
        split at q2
        · rename_i kvs hk
          split at q2
          · rename_i k hkey
            split at q2
            · rename_i d hg
              obtain ⟨y', ey, ws, rfl, rk⟩ := hs2.get n a _ eb hk
              obtain ⟨u, hu, ru⟩ := (rk.val (k := k)).1 d hg
              have x3 : Ext (gX X) p2 H2 p2 (upd H2 a (.dK (dropK ws k))) := Ext.set (mem_of_get eb) ey (.inl rfl) (fun _ _ z => by cases z)
              refine ⟨ws, k, u, ey, toKey_read rw' hkey, hu, q2 p2 _ x3 (hs2.set eb hk ey (.inl rfl) ⟨_, rfl, rk.drop⟩) _ (ru.mono x3.pre x3.tup)⟩
            · exact q2.elim
          · exact q2.elim
        · exact q2.elim
      · exact q2.elim
    · exact q1.elim
/-- o[i] = v -/
def fSet (o i v : D) (S : Sto) : Rs Unit := match o with
  | .ref n => match S[n]? with
    | some (.lst ds) => match i with
      | .int i => match ixN ds.length i with
        | some j => .ok () (S.set n (.lst (ds.set j v)))
        | none => .bad
      | _ => .bad
    | some (.dk kvs) => match toKey i with
      | some k => if kvs.length < sizeLine then .ok () (S.set n (.dk (setK kvs k v))) else .bad
      | none => .bad
    | _ => .bad
  | _ => .bad
def tSetA : TSet := fun o i v H Q => rSetL o i v H Q ∨ ∃ a H', o = .ref a ∧ DPut H a i v H' ∧ Q H'
theorem set_any (hu : X.A.units + 1 < cLine) : PSet X tSetA := by
  intro pins s σ H o i v ov iv u Q I ro ri rv h
  rcases h with h | ⟨a, H', rfl, g, q⟩
  · exact set_list pins s σ H o i v ov iv u Q I ro ri rv h
  · obtain rfl : ov = Value.ref a := ro
    exact d_setItem hu I g ri rv fun s' I' => ⟨H', I', q⟩
theorem pr_set {K : KX} : PrimS K W tSetA fSet := by
  intro p S H o i d ov iv v Q hs ro ri rd q
  unfold fSet at q
  split at q
  · rename_i n
    obtain ⟨a, ea, rfl⟩ := ro
    split at q
    · rename_i ds hd
      obtain ⟨us, ex, rs⟩ := lst_at hs ea hd
      split at q
      · rename_i k
        split at q
        · rename_i j hj
          have x1 : Ext K p H p (upd H a (.lst (us.set j v))) := Ext.set (mem_of_get ea) ex (.inl rfl) (fun _ _ z => by cases z)
          exact .inl ⟨a, us, k, j, rfl, ri, ex, by rw [← rs.length]; exact hj, q p _ x1 (hs.set ea hd ex (.inl rfl) ⟨_, rfl, rs.set j rd⟩)⟩
        · exact q.elim
      · exact q.elim
    · rename_i kvs hd
      obtain ⟨x, ex, ws, rfl, rk⟩ := hs.get n a _ ea hd
      split at q
      · rename_i k hk
        split at q
        · rename_i hz
          have x1 : Ext K p H p (upd H a (.dK (putK ws k v))) := Ext.set (mem_of_get ea) ex (.inl rfl) (fun _ _ z => by cases z)
          refine .inr ⟨a, _, rfl, .inl ⟨ws, k, ex, toKey_read ri hk, by rw [← rk.length]; exact hz, rfl⟩, q p _ x1 (hs.set ea hd ex (.inl rfl) ⟨_, rfl, rk.put rd⟩)⟩
        · exact q.elim
      · exact q.elim
    · exact q.elim
  · exact q.elim
/-! dict displays -/
def mDnew : En → Sto → Rs D := fun _ S => .ok (.ref S.length) (S ++ [.dk []])
theorem me_dnew {pos : Pos} : ME X W (.Dict [] [] pos) mDnew := PE.imp pe_dnewK fun σ H Q q => by
  obtain ⟨p, S, E, hs, he, q⟩ := q
  exact fun a ha => new_obj hs (o := .dk []) ⟨[], rfl, .nil'⟩ q ha
def dPairs : List ((En → Sto → Rs D) × (En → Sto → Rs D)) → En → Sto → Rs (List (Key × D))
  | [], _, S => .ok [] S
  | (mk, mv) :: r, E, S => (mk E S).bind fun x S1 => (mv E S1).bind fun y S2 => (dPairs r E S2).bind fun ps S3 => match toKey x with
    | some k => .ok ((k, y) :: ps) S3
    | none => .bad
def mergeD (kvs more : List (Key × D)) : List (Key × D) := more.foldl (fun acc kv => setK acc kv.1 kv.2) kvs
def mDisp (ms : List ((En → Sto → Rs D) × (En → Sto → Rs D))) : En → Sto → Rs D := fun E S => (dPairs ms E S).bind fun ps S1 => if ps.length ≤ 15 then .ok (.ref S1.length) (S1 ++ [.dk (mergeD [] ps)]) else .bad
theorem RKs.merge {K : KX} {p : List Addr} {H : Hp} : ∀ {more : List (Key × D)} {wm : List (Key × V)} {kvs : List (Key × D)} {ws : List (Key × V)}, RKs K p H more wm → RKs K p H kvs ws → RKs K p H (mergeD kvs more) (mergeK ws wm)
  | [], wm, kvs, ws, h, h' => by rw [h.nil]; exact h'
  | (k, d) :: r, wm, kvs, ws, h, h' => by
    obtain ⟨v, s, rfl, rv, rr⟩ := h.cons
    exact RKs.merge (more := r) (wm := s) rr (h'.put rv)
abbrev lEs (K : KX) (W : XW) (ms : List ((En → Sto → Rs D) × (En → Sto → Rs D))) : List (TE × TE) := ms.map fun x => (lE K W x.1, lE K W x.2)
theorem pairs_read {K : KX} {E : En} {σ : St} : ∀ {ms : List ((En → Sto → Rs D) × (En → Sto → Rs D))} {p : List Addr} {S : Sto} {H : Hp} {k : List (Key × D) → Sto → List Addr → Hp → Prop} {R : List (V × V) → Hp → Prop}, RS K p S H → RE K p H E σ →
    post K W p H (dPairs ms E S) k → (∀ ps S' p' H' ws, Ext K p H p' H' → RS K p' S' H' → RKs K p' H' ps ws → k ps S' p' H' → R (ws.map fun kv => (kV kv.1, kv.2)) H') → tPairs (lEs K W ms) σ H R
  | [], p, S, H, k, R, hs, he, q, h => h [] S p H [] (Ext.refl _ _) hs .nil' (post_ok q hs)
  | (mk, mv) :: r, p, S, H, k, R, hs, he, q, h => by
    refine lE_step hs he (post_mono (fun x S1 p1 H1 x1 hs1 q1 v rv => ?_) (post_bind q))
    refine lE_step hs1 (he.mono x1.pre x1.tup) (post_mono (fun y S2 p2 H2 x2 hs2 q2 u ru => ?_) (post_bind q1))
    refine pairs_read hs2 ((he.mono x1.pre x1.tup).mono x2.pre x2.tup) (post_bind q2) fun ps S3 p3 H3 ws x3 hs3 rk q3 => ?_
    split at q3
    · rename_i kk hk
      have e1 := toKey_read rv hk
      subst e1
      exact h ((kk, y) :: ps) S3 p3 H3 ((kk, u) :: ws) ((x1.trans x2).trans x3) hs3 (.mk (ru.mono x3.pre x3.tup) rk) (post_ok q3 hs3)
    · exact q3.elim
theorem me_disp {pos : Pos} {keys : List (Option Expr)} {values : List Expr} {ms : List ((En → Sto → Rs D) × (En → Sto → Rs D))} (h : PPs X pos keys values (lEs (gX X) W ms)) (hall : keys.all (·.isSome) = true) (hl : keys.length = values.length) (h0 : keys ≠ []) (h15 : keys.length ≤ 15) :
    ME X W (.Dict keys values pos) (mDisp ms) :=
  PE.imp (pe_disp h hall hl h0 h15) fun σ H Q q => by
    obtain ⟨p, S, E, hs, he, q⟩ := q
    intro c hc
    have x0 : Ext (gX X) p H p (upd H c (.dK [])) := Ext.new hc
    refine pairs_read (hs.frame hc) (he.mono x0.pre x0.tup) (post_base x0 (post_bindB q)) fun ps S1 p1 H1 ws x1 hs1 rk q1 => ?_
    have hcp : c ∉ p := hs.notin hc
    obtain ⟨hc1, hH1⟩ := x1.frm c _ hcp upd_same (fun _ z => by cases z)
    split at q1
    · rename_i hz
      have hx : Ext (gX X) p H (p1 ++ [c]) (upd H1 c (.dK (mergeK [] ws))) := by
        have xx := x0.trans x1
        have k2 : Keep (gX X) H1 (upd H1 c (.dK (mergeK [] ws))) := Keep.set hH1 (.inl rfl)
        refine ⟨xx.pre.trans (Pre.add _ _), xx.tup.trans k2, fun b ob h1 h2 h3 => ?_, fun b ob u h2 => ?_⟩
        · obtain ⟨a1, a2⟩ := xx.frm b ob h1 h2 h3
          have hb : b ≠ c := ne_of_none h2 hc
          refine ⟨fun z => ?_, by rw [upd_ne hb]; exact a2⟩
          rcases List.mem_append.mp z with z | z
          · exact a1 z
          · exact hb (by simpa using z)
        · rw [upd_ne (ne_of_none h2 hc)]
          exact xx.frz _ _ _ h2
      have hsd := hs1.del hc1 hH1 rfl
      have kd : Keep (gX X) H1 (del H1 c) := Keep.del hH1 rfl
      have hs2 := hsd.alloc (a := c) (o := .dk (mergeD [] ps)) del_same ⟨mergeK [] ws, rfl, (rk.mono (Pre.refl _) kd).merge .nil'⟩
      have eH : upd (del H1 c) c (.dK (mergeK [] ws)) = upd H1 c (.dK (mergeK [] ws)) := by
        funext b
        by_cases hb : b = c
        · subst hb; rw [upd_same, upd_same]
        · rw [upd_ne hb, upd_ne hb, del_ne hb]
      rw [eH] at hs2
      refine ⟨hH1, ws, rfl, by rw [← rk.length]; exact hz, q1 _ _ hx hs2 _ ⟨c, ?_, rfl⟩⟩
      rw [← hs1.len]; simp
    · exact q1.elim
end
end M

namespace M
open PySem L2 PySem.Spec

/-! ### enumerate(a tuple) -/
theorem meets_enum1 {v : Value} {o : Obj} {H : Heap → Prop} (B : Begins v o H) :
    Meets (Builtin.«enumerate.__new__» ⟨[.type "enumerate", v], []⟩) (fun _ R s => H s.heap ∧
      R (.ok (.ret (.ref (s.heap.push o).objs.size))) { s with heap := (s.heap.push o).push { cls := .type "enumerate", data := .fields #[.none, .bool false, .ref s.heap.objs.size, rawInt 0, .none, .none] } }) :=
  .of_wp fun prog w A R s h => by
    obtain ⟨hp, g, d, tk, os⟩ := s; obtain ⟨h1, h⟩ := h
    have hsub := sub_enumerate
    have q1 : ∀ {A' : Around} {E : Value → Shared → Prop} {Q : Value → Shared → Prop}, Q (.ref hp.objs.size) ⟨hp.push o, g, d, tk, os⟩ → wpAny (model prog w) A' (pyIter v) Q E ⟨hp, g, d, tk, os⟩ :=
      fun q => B.iter prog w _ _ ⟨hp, g, d, tk, os⟩ _ h1 q
    wp_walk using q1
    refine wpAny_stack_any fun st => wpAny_pure ?_
    split
    · rename_i c _ _ _ _ _
      cases (c == Value.type "enumerate")
      · wp_walk using q1
        exact ⟨_, rfl, h⟩
      · wp_walk using q1
        exact ⟨_, rfl, h⟩
    · wp_walk using q1
      exact ⟨_, rfl, h⟩
section
variable {prog : Program} {w : World} {A : Around} {E : Value → Shared → Prop} {s : Shared}
theorem enum_begin1 {v : Value} {o : Obj} {H : Heap → Prop} {Q : Value → Shared → Prop} (B : Begins v o H) (h1 : H s.heap)
    (h : ∀ h', IsEnum h' (s.heap.objs.size + 1) s.heap.objs.size 0 .none → h'.get? s.heap.objs.size = some o → h'.objs.size = s.heap.objs.size + 2 →
      (∀ b o, s.heap.get? b = some o → h'.get? b = some o) → Q (.ref (s.heap.objs.size + 1)) { s with heap := h' }) :
    wpAny (model prog w) A (call (.type "enumerate") [v]) Q E s := by
  refine callType_new F.called_enumerate (by decide) (F.typeCall_enumerate_1 _) (F.newCall_enumerate_1 _) (fun obj => F.args_object_init_2 obj _) F.entry_enumerate_new
    (meets_enum1 B) ⟨h1, ?_⟩
  have hz : (s.heap.push o).objs.size = s.heap.objs.size + 1 := Heap.size_push ..
  show _ ∧ _
  rw [hz]
  have he : IsEnum ((s.heap.push o).push { cls := .type "enumerate", data := .fields #[.none, .bool false, .ref s.heap.objs.size, rawInt 0, .none, .none] }) (s.heap.objs.size + 1) s.heap.objs.size 0 .none := by
    have := Heap.get?_push_size (s.heap.push o) (o := { cls := .type "enumerate", data := .fields #[.none, .bool false, .ref s.heap.objs.size, rawInt 0, .none, .none] }) rfl
    rw [hz] at this; exact this
  refine ⟨⟨_, he, rfl⟩, h _ he (Heap.get?_push_of_some _ (Heap.get?_push_size _ B.free)) (by rw [Heap.size_push, hz]) fun b o x => Heap.get?_push_of_some _ (Heap.get?_push_of_some _ x)⟩
end
/-- the tuple at a, each item in a new pair -/
def IteT (K : PySem.W.Frag) (a : Addr) : It :=
  ⟨fun i H => ∃ (xs : List V) (x : V), SqT K H a xs ∧ xs[i]? = some x, fun i H v H' => ∃ T x, v = .ref T ∧ H T = none ∧ H' = upd H T (.tup [.int (i : Nat), x]) ∧ ∀ xs, SqT K H a xs → xs[i]? = some x, fun i H => ∃ xs : List V, SqT K H a xs ∧ xs.length = i⟩
theorem turn_enumT {P : Program} {w : World} {K : PySem.W.Frag} {elts : List Expr} {kk : Nat} {tpos : Pos} (a e it : Addr) :
    Turn P w K (.Tuple elts kk tpos) (IteT K a) [e, it] e (fun i h => (∃ old, IsEnum h e it ((i : Nat) : Int) old) ∧ h.IsTupleIter it a i ∧ e ≠ it ∧ a ≠ it ∧ a ≠ e) where
  mem := by simp
  obj := fun i h st b hb => by
    obtain ⟨⟨old, he⟩, ⟨o, ho, hc, hd⟩, _⟩ := st
    have e' : b = e ∨ b = it := by simpa using hb
    rcases e' with z | z
    · rw [z]; exact ⟨_, he, fun v q => nomatch q⟩
    · rw [z]; exact ⟨o, ho, fun v q => by rw [hd] at q; cases q⟩
  keep := fun i h h' st k => let ⟨⟨old, he⟩, hi, hne⟩ := st; ⟨⟨old, k e (by simp) _ he⟩, hi.at fun o q => k it (by simp) o q, hne⟩
  item := by
    intro X hP hw hK hc i pins s σ H E I hf st hg
    subst hP hw hK
    obtain ⟨⟨old, he⟩, hit, hne, hai, hae⟩ := st
    obtain ⟨xs, x, hq, hx⟩ := hg
    obtain ⟨its, rv, p, hz⟩ := I.tuple hq
    obtain ⟨u, hu, ru⟩ := rv.get hx
    have hel : e < s.heap.objs.size := Heap.lt_size he
    have hil : it < s.heap.objs.size := by obtain ⟨_, q, _⟩ := hit; exact Heap.lt_size q
    have Dr := Draws.tuple (prog := X.prog) (w := X.w) (A := X.A.in1) (I.ok.hd hc) it a hai its.toArray
    refine wpAny_pyNext_enum_itemD Dr he ⟨hit, p⟩ (by simpa using (List.getElem?_eq_some_iff.mp hu).1) hne (by simp [hne, Ne.symm hae]) fun x' h' tk hPx ho hst' hT hsz hk => ?_
    have ex : x' = u := by
      have h1 : its[i]? = some x' := by simpa using hPx
      rw [hu] at h1
      exact (Option.some.inj h1).symm
    subst ex
    refine ⟨_, rfl, wpAny_letOwnedTupleGo_enum (s := { s with heap := h', toks := tk + 1 }) ho fun h'' he' sb => ?_⟩
    have hT2 : h''.get? s.heap.objs.size = some { cls := .type "tuple", data := .seq #[.int i tk, x'] } := (sb.2 _ (Nat.ne_of_gt hel)).trans hT
    have new : ObjOk X.prog X.w (upd H s.heap.objs.size (.tup [.int (i : Nat), x])) h'' s.heap.objs.size (.tup [.int (i : Nat), x]) :=
      ⟨by show 2 ≤ sizeLine; decide, [.int i tk, x'], .cons ⟨_, rfl⟩ (.cons ru .nil), ⟨_, hT2, rfl, _, rfl⟩⟩
    have I1 : Inv X pins σ (upd H s.heap.objs.size (.tup [.int (i : Nat), x])) { s with heap := h'', toks := tk + 1 } :=
      I.turnedNew (ch := [e, it]) (fun b ob hb q => (sb.2 b (fun z => hb (by simp [z]))).trans (hk b ob (fun z => hb (by simp [z])) (fun z => hb (by simp [z])) q)) hf (Nat.le_refl _) new
    refine ⟨.ref s.heap.objs.size, _, I1, rfl, ⟨_, x, rfl, I.hok.fresh (Nat.le_refl _), rfl, fun ys hy => by rw [I.tuple_inj hy hq]; exact hx⟩, ⟨⟨x', ?_⟩, hst'.1.at fun o q => (sb.2 it (Ne.symm hne)).trans q, hne, hai, hae⟩, fun b hb => ?_⟩
    · have e1 : ((i + 1 : Nat) : Int) = (i : Int) + 1 := by omega
      rw [e1]; exact he'
    · have hb' : b < s.heap.objs.size := by
        have e' : b = e ∨ b = it := by simpa using hb
        rcases e' with z | z
        · rw [z]; exact hel
        · rw [z]; exact hil
      rw [upd_ne (Nat.ne_of_lt hb')]
      exact (hf b hb).1
  done := by
    intro X hP hw hK hc i pins s σ H E I hf st hg
    subst hP hw hK
    obtain ⟨⟨old, he⟩, hit, hne, hai, hae⟩ := st
    obtain ⟨xs, hq, hx⟩ := hg
    obtain ⟨its, rv, p, hz⟩ := I.tuple hq
    obtain ⟨f0, f1, f2, f3, f4, f5⟩ := hf it (by simp)
    have hl := rv.length
    have hin : i = its.toArray.size := by simp; omega
    subst hin
    have Dr := Draws.tuple (prog := X.prog) (w := X.w) (A := X.A.in1) (I.ok.hd hc) it a hai its.toArray
    exact wpAny_pyNext_enum_endD Dr he ⟨hit, p⟩ fun h' eb => ⟨rfl, I.turned (t' := s.toks) (fun b o hb q => eb b o hb q) f0 f1 f3 f4 f5⟩
  self := fun A i s Q E st h => let ⟨⟨_, he⟩, _⟩ := st; wpAny_pyIter_enum he h

def iEnumA (X : Cx) (ta : TA) : TI := fun σ H R => ta σ H fun vs H1 => ∃ a xs, vs = [.ref a] ∧ ((SqL X.K H1 a xs ∧ R (Ite X.K a) H1) ∨ (SqT X.K H1 a xs ∧ R (IteT X.K a) H1))
theorem pi_enumA {X : Cx} {e : Expr} {ta : TA} {p pos tpos : Pos} {elts : List Expr} {kk : Nat} (hg : Gl X "enumerate") (hm : X.mg "enumerate" = none) (ha : PA X [e] ta) (hs : starEach [e] X.env = [(false, eval e X.env)] := by rfl) :
    PI X (.Tuple elts kk tpos) (.Call (.Name "enumerate" p) [e] [] pos) (iEnumA X ta) := by
  refine ⟨fun pins s σ H R I h => ?_⟩
  refine PyProof.Rows.Call_ (ld_blt I hg hm PyProof.Rows.boot_enumerate (PyProof.Rows.callWith_type1 (thn (ha.run pos pins s σ H _ I h) fun us s1 ⟨vs, H1, I1, r1, q1⟩ => ?_) hs rfl))
  obtain ⟨a, xs, ex, q1⟩ := q1
  subst ex
  cases r1 with
  | cons r rr =>
    cases rr
    cases r
    have fp : ∀ b, b ∈ [s1.heap.objs.size + 1, s1.heap.objs.size] → FpOk X pins H1 b := fun b hb => by
      have e' : b = s1.heap.objs.size + 1 ∨ b = s1.heap.objs.size := by simpa using hb
      have hle : s1.heap.objs.size ≤ b := by
        rcases e' with z | z
        · rw [z]; exact Nat.le_add_right _ _
        · rw [z]; exact Nat.le_refl _
      exact I1.fpOk hle (I1.hok.fresh hle)
    rcases q1 with ⟨hq, q⟩ | ⟨hq, q⟩
    · obtain ⟨its, rv, p', hz⟩ := I1.list hq
      refine call_enumerate_list p'.isList fun h' he hit hsz hk => wpAny_pyIter_enum he ?_
      have I2 : Inv X pins σ H1 { s1 with heap := h' } := I1.kept (t' := s1.toks) hk
      exact ⟨s1.heap.objs.size + 1, [s1.heap.objs.size + 1, s1.heap.objs.size], _, _, H1, rfl, I2, turn_enum a (s1.heap.objs.size + 1) s1.heap.objs.size, ⟨⟨.none, he⟩, hit, Nat.succ_ne_self _⟩, fp, q⟩
    · obtain ⟨its, rv, p', hz⟩ := I1.tuple hq
      have hlt : a < s1.heap.objs.size := by obtain ⟨o, ho, _⟩ := p'; exact Heap.lt_size ho
      refine enum_begin1 (begins_tuple a its.toArray) p' fun h' he hit hsz hk => wpAny_pyIter_enum he ?_
      have I2 : Inv X pins σ H1 { s1 with heap := h' } := I1.kept (t' := s1.toks) hk
      exact ⟨s1.heap.objs.size + 1, [s1.heap.objs.size + 1, s1.heap.objs.size], _, _, H1, rfl, I2, turn_enumT a (s1.heap.objs.size + 1) s1.heap.objs.size, ⟨⟨.none, he⟩, ⟨_, hit, rfl, rfl⟩, Nat.succ_ne_self _, Nat.ne_of_lt hlt, Nat.ne_of_lt (Nat.lt_succ_of_lt hlt)⟩, fp, q⟩
section
variable {X : Cx} {W : XW}
/-- enumerate(x) -/
def pairsN (ds : List D) : List D := ds.zipIdx.map fun x => .tup [.int (x.2 : Nat), x.1]
def aiEnum (ds : List D) (S : Sto) : Rs AI := match ds with
  | [.tup xs] => .ok ⟨pairsN xs, fun _ => True, none⟩ S
  | [.rl ns] => .ok ⟨pairsN (ns.map .int), fun _ => True, none⟩ S
  | [.ref n] => match S[n]? with
    | some (.lst xs) => .ok ⟨pairsN xs, fun S => S[n]? = some (.lst xs), none⟩ S
    | _ => .bad
  | _ => .bad
def iEn (t : En → Sto → Rs (List D)) : En → Sto → Rs AI := fun E S => (t E S).bind aiEnum
theorem pairsN_get {ds : List D} {i : Nat} {d : D} (h : (pairsN ds)[i]? = some d) : ∃ x, ds[i]? = some x ∧ d = .tup [.int (i : Nat), x] := by
  unfold pairsN at h
  rw [List.getElem?_map] at h
  cases hq : ds.zipIdx[i]? with
  | none => rw [hq] at h; cases h
  | some y =>
    rw [hq] at h
    rw [List.getElem?_zipIdx] at hq
    cases hd : ds[i]? with
    | none => rw [hd] at hq; cases hq
    | some x =>
      rw [hd] at hq
      simp at hq
      subst hq
      simp at h
      exact ⟨x, rfl, h.symm⟩
theorem pairsN_len (ds : List D) : (pairsN ds).length = ds.length := by simp [pairsN]
/-- a new pair given out -/
theorem pair_y {q : List Addr} {S : Sto} {H' H2 : Hp} {T : Addr} {x : V} {i : Nat} {d : D} (hT : H' T = none) (e : H2 = upd H' T (.tup [.int (i : Nat), x])) (r : RS (gX X) q S H') (rd : RD (gX X) q H' d x) :
    Ext (gX X) q H' q H2 ∧ RS (gX X) q S H2 ∧ RD (gX X) q H2 (.tup [.int (i : Nat), d]) (.ref T) := by
  subst e
  have x1 : Ext (gX X) q H' q (upd H' T (.tup [.int (i : Nat), x])) := Ext.new hT
  exact ⟨x1, r.frame hT, T, _, rfl, .of upd_same, _, _, rfl, rfl, _, _, rfl, rd.mono x1.pre x1.tup, rfl⟩
theorem mi_enum {e : Expr} {t : En → Sto → Rs (List D)} {p pos tpos : Pos} {elts : List Expr} {kk : Nat} (hg : Gl X "enumerate") (hm : X.mg "enumerate" = none) (ha : MA X W [e] t) (hs : starEach [e] X.env = [(false, eval e X.env)] := by rfl) :
    MI X W (.Tuple elts kk tpos) (.Call (.Name "enumerate" p) [e] [] pos) (iEn t) :=
  PI.imp (pi_enumA hg hm ha hs) fun σ H R q => by
    obtain ⟨p, S, E, hs, he, q⟩ := q
    refine ⟨p, S, E, hs, he, post_mono (fun ds S1 p1 H1 x1 hs1 q1 vs rvs => ?_) (post_bind q)⟩
    unfold aiEnum at q1
    split at q1
    · obtain ⟨v, rfl, rv⟩ := one_of rvs
      obtain ⟨a, us, rfl, e, rs⟩ := rv
      refine ⟨a, us, rfl, .inr ⟨e, post_ok q1 hs1 _ _ .none ⟨fun i q S H' e' r g hi => ?_, fun q S H' e' r g => ?_, fun i q S H' y H2 dd e' r g hi yy => ?_⟩⟩⟩
      · have hi' : i < us.length := by rw [← rs.length, ← pairsN_len]; exact hi
        exact ⟨us, us[i], e'.tup.tup _ _ e, by simp [hi']⟩
      · exact ⟨us, e'.tup.tup _ _ e, by rw [← rs.length]; exact (pairsN_len _).symm⟩
      · obtain ⟨x, hx, rfl⟩ := pairsN_get hi
        obtain ⟨T, z, rfl, hT, e2, hz⟩ := yy
        obtain ⟨w, hw, rw'⟩ := (rs.mono e'.pre e'.tup).get hx
        have := hz us (e'.tup.tup _ _ e)
        rw [hw] at this; cases this
        exact pair_y hT e2 r rw'
    · obtain ⟨v, rfl, rv⟩ := one_of rvs
      obtain ⟨a, rfl, e⟩ := rv
      refine ⟨a, _, rfl, .inl ⟨e.sq, post_ok q1 hs1 _ _ .none ⟨fun i q S H' e' r g hi => ?_, fun q S H' e' r g => ?_, fun i q S H' y H2 dd e' r g hi yy => ?_⟩⟩⟩
      · rw [pairsN_len, List.length_map] at hi
        exact ⟨_, _, (e'.tup.rdl _ _ e).sq, by rw [List.getElem?_map, List.getElem?_eq_getElem hi]; rfl⟩
      · exact ⟨_, (e'.tup.rdl _ _ e).sq, by rw [pairsN_len, List.length_map, List.length_map]; exact Nat.le_refl _⟩
      · obtain ⟨x, hx, rfl⟩ := pairsN_get hi
        obtain ⟨T, z, rfl, hT, e2, hz⟩ := yy
        obtain ⟨w, hw, rw'⟩ := (rds_ints (K := gX X) (p := q) (H := H') _).get hx
        have := hz _ (e'.tup.rdl _ _ e).sq
        rw [hw] at this; cases this
        exact pair_y hT e2 r rw'
    · rename_i n
      obtain ⟨v, rfl, rv⟩ := one_of rvs
      obtain ⟨a, ea, rfl⟩ := rv
      split at q1
      · rename_i xs hd
        obtain ⟨us, ex, rs⟩ := lst_at hs1 ea hd
        have lst : ∀ q (S : Sto) H', Ext (gX X) p1 H1 q H' → RS (gX X) q S H' → S[n]? = some (.lst xs) → ∃ us, H' a = some (.lst us) ∧ RDs (gX X) q H' xs us := fun q S H' e r g => lst_at r (e.pre.get ea) g
        refine ⟨a, us, rfl, .inl ⟨.of ex, post_ok q1 hs1 _ _ .none ⟨fun i q S H' e' r g hi => ?_, fun q S H' e' r g => ?_, fun i q S H' y H2 dd e' r g hi yy => ?_⟩⟩⟩
        · obtain ⟨ws, ew, rw'⟩ := lst q S H' e' r g
          have hi' : i < ws.length := by rw [← rw'.length, ← pairsN_len]; exact hi
          exact ⟨ws, ws[i], .of ew, by simp [hi']⟩
        · obtain ⟨ws, ew, rw'⟩ := lst q S H' e' r g
          exact ⟨ws, .of ew, by rw [← rw'.length, pairsN_len]; exact Nat.le_refl _⟩
        · obtain ⟨ws, ew, rw'⟩ := lst q S H' e' r g
          obtain ⟨x, hx, rfl⟩ := pairsN_get hi
          obtain ⟨T, z, rfl, hT, e2, hz⟩ := yy
          obtain ⟨w, hw, rw2⟩ := rw'.get hx
          have := hz ws (.of ew)
          rw [hw] at this; cases this
          exact pair_y hT e2 r rw2
      · exact q1.elim
    · exact q1.elim
/-! ### range -/
def rangeD (lo hi : Int) : List D := (List.range (hi - lo).toNat).map fun i => .int (lo + (i : Nat))
def aiR1 (ds : List D) (S : Sto) : Rs AI := match ds with
  | [.int j] => if -(2 ^ 62) ≤ j ∧ j < 2 ^ 62 then .ok ⟨rangeD 0 j, fun _ => True, none⟩ S else .bad
  | _ => .bad
def aiR2 (ds : List D) (S : Sto) : Rs AI := match ds with
  | [.int i, .int j] => if -(2 ^ 62) ≤ i ∧ i < 2 ^ 62 ∧ -(2 ^ 62) ≤ j ∧ j < 2 ^ 62 then .ok ⟨rangeD i j, fun _ => True, none⟩ S else .bad
  | _ => .bad
theorem wd_range {p : List Addr} {H : Hp} {lo hi : Int} : WD X p H (Itr lo (hi - lo).toNat) ⟨rangeD lo hi, fun _ => True, none⟩ := by
  refine wd_walk walk_range (by simp [rangeD]) (fun _ _ _ _ _ _ => trivial) fun i q S H' x H2 dd e r g hi y => ?_
  obtain ⟨e2, rfl⟩ := y
  refine same_y e2 r ?_
  unfold rangeD at hi
  rw [List.getElem?_map] at hi
  rw [List.getElem?_range] at hi
  · cases hi; rfl
  · have := (List.getElem?_eq_some_iff.mp (show (List.map (fun i : Nat => D.int (lo + i)) (List.range _))[i]? = some dd by rw [List.getElem?_map]; exact hi)).1
    simpa using this
theorem mi_range1 {tg a : Expr} {t : En → Sto → Rs (List D)} {p pos : Pos} (hg : Gl X "range") (hm : X.mg "range" = none) (ha : MA X W [a] t) (hs : starEach [a] X.env = [(false, eval a X.env)] := by rfl) : MI X W tg (.Call (.Name "range" p) [a] [] pos) (fun E S => (t E S).bind aiR1) :=
  PI.imp (pi_range1 hg hm ha hs) fun σ H R q => by
    obtain ⟨p, S, E, hs, he, q⟩ := q
    refine ⟨p, S, E, hs, he, post_mono (fun ds S1 p1 H1 x1 hs1 q1 vs rvs => ?_) (post_bind q)⟩
    unfold aiR1 at q1
    split at q1
    · rename_i j
      obtain ⟨v, rfl, rv⟩ := one_of rvs
      obtain rfl := rv
      split at q1
      · rename_i hb
        refine ⟨_, rfl, hb.1, hb.2, post_ok q1 hs1 _ _ .none ?_⟩
        have := wd_range (X := X) (p := p1) (H := H1) (lo := 0) (hi := j)
        simpa using this
      · exact q1.elim
    · exact q1.elim
theorem mi_range2 {tg a b : Expr} {t : En → Sto → Rs (List D)} {p pos : Pos} (hg : Gl X "range") (hm : X.mg "range" = none) (ha : MA X W [a, b] t) (hs : starEach [a, b] X.env = [(false, eval a X.env), (false, eval b X.env)] := by rfl) (hs2 : starEach [b] X.env = [(false, eval b X.env)] := by rfl) :
    MI X W tg (.Call (.Name "range" p) [a, b] [] pos) (fun E S => (t E S).bind aiR2) :=
  PI.imp (pi_range2 hg hm ha hs hs2) fun σ H R q => by
    obtain ⟨p, S, E, hs, he, q⟩ := q
    refine ⟨p, S, E, hs, he, post_mono (fun ds S1 p1 H1 x1 hs1 q1 vs rvs => ?_) (post_bind q)⟩
    unfold aiR2 at q1
    split at q1
    · obtain ⟨v, u, rfl, rv, ru⟩ := two_of rvs
      obtain rfl := rv
      obtain rfl := ru
      split at q1
      · rename_i hb
        exact ⟨_, _, rfl, hb, post_ok q1 hs1 _ _ .none wd_range⟩
      · exact q1.elim
    · exact q1.elim
/-! ### the values of a dict -/
/-- ahead of what walks it the dict is locked -/
theorem pe_glock {e : Expr} {t : TE} (h : PE X e t) : PE X e (fun σ H Q => t σ H fun v H1 => (∃ d kvs, v = .ref d ∧ H1 d = some (.dK kvs) ∧ ∀ od, (∀ o u, X.H_0 d ≠ some (.frz o u)) → Q v (upd H1 d (.frz od (.dK kvs)))) ∨ Q v H1) := by
  refine ⟨fun pins s σ H Q I hw => ?_⟩
  refine thn (h.run pins s σ H _ I hw) fun v s1 ⟨x, H1, I1, r, q⟩ => ?_
  rcases q with ⟨d, kvs, rfl, hd, q⟩ | q
  · obtain ⟨od, I2⟩ := I1.lock hd True.intro
    exact ⟨_, _, I2, r, q od (I1.nofrz hd True.intro)⟩
  · exact ⟨x, H1, I1, r, q⟩
def aiVals (d : D) (S : Sto) : Rs AI := match d with
  | .ref n => match S[n]? with
    | some (.dk kvs) => .ok ⟨kvs.map (·.2), fun S => S[n]? = some (.fd kvs), some n⟩ S
    | some (.fd kvs) => .ok ⟨kvs.map (·.2), fun S => S[n]? = some (.fd kvs), none⟩ S
    | _ => .bad
  | _ => .bad
theorem wd_vals {p : List Addr} {H : Hp} {n : Nat} {d : Addr} {od : Obj} {kvs : List (Key × D)} {ws : List (Key × V)} {lk : Option Nat} (hd : H d = some (.frz od (.dK ws))) (rk : RKs (gX X) p H kvs ws) :
    WD X p H (Itd d od ws) ⟨kvs.map (·.2), fun S => S[n]? = some (.fd kvs), lk⟩ := by
  refine wd_walk walk_values (by rw [List.length_map]; exact rk.length) (fun q S H' e r g => e.frz _ _ _ hd) fun i q S H' x H2 dd e r g hi y => ?_
  obtain ⟨e2, k, hk⟩ := y
  refine same_y e2 r ?_
  obtain ⟨d', hk', rd⟩ := key_get (rk.mono e.pre e.tup) hk
  rw [List.getElem?_map, hk'] at hi
  simp at hi
  subst hi
  exact rd
theorem mi_vals {tg e : Expr} {m : En → Sto → Rs D} {apos cpos : Pos} (he : ME X W e m) (hbase : attributeBase e "values" X.env (eval e X.env) = eval e X.env := by rfl) (hline : (apos.endLine == cpos.line) = true := by rfl) : MI X W tg (.Call (.Attribute e "values" apos) [] [] cpos) (fun E S => (m E S).bind aiVals) :=
  PI.imp (pi_values (pe_glock he) hbase hline) fun σ H R q => by
    obtain ⟨p, S, E, hs, he, q⟩ := q
    refine lE_step hs he (post_mono (fun d S1 p1 H1 x1 hs1 q1 v rv => ?_) (post_bind q))
    unfold aiVals at q1
    split at q1
    · rename_i n
      obtain ⟨a, ea, rfl⟩ := rv
      split at q1
      · rename_i kvs hd
        obtain ⟨x, ex, ws, rfl, rk⟩ := hs1.get n a _ ea hd
        refine .inl ⟨a, ws, rfl, ex, fun od hno => ⟨a, od, ws, rfl, upd_same, ?_⟩⟩
        have e0 : Ext (gX X) p1 H1 p1 (upd H1 a (.frz od (.dK ws))) := Ext.set (mem_of_get ea) ex (.inl rfl) (fun _ _ z => by cases z)
        have el : lockS (some n) S1 = S1.set n (.fd kvs) := by simp only [lockS, hd]
        exact post_ok q1 hs1 _ _ (by rw [el]; exact .some ea ex hno hd rk) (wd_vals upd_same (rk.mono e0.pre e0.tup))
      · rename_i kvs hd
        obtain ⟨x, ex, ob, ws, rfl, rk⟩ := hs1.get n a _ ea hd
        exact .inr ⟨a, ob, ws, rfl, ex, post_ok q1 hs1 _ _ .none (wd_vals ex rk)⟩
      · exact q1.elim
    · exact q1.elim
end
end M

namespace M
open PySem L2
section
variable {X : Cx} {W : XW}
/-! ### dict comprehensions -/
def lTD (K : KX) (W : XW) (m : En → Sto → Rs (List (Key × D))) : TE := fun σ H Q => ∃ p S E, RS K p S H ∧ RE K p H E σ ∧ post K W p H (m E S) fun ds _ p' H' => ∀ a ws, H' a = none → ws.length ≤ sizeLine → RKs K p' H' ds ws → Q (.ref a) (upd H' a (.dK ws))
abbrev TDi (X : Cx) (W : XW) (e : Expr) (m : En → Sto → Rs (List (Key × D))) : Prop := PE X e (lTD (gX X) W m)
open Classical in
noncomputable def compD (g : Sto → Prop) (body : D → Sto → Rs (Option (Key × D))) : List D → List (Key × D) → Sto → Rs (List (Key × D))
  | [], acc, S => if g S then .ok acc S else .bad
  | d :: r, acc, S => if g S then (noX (body d S)).bind fun o S1 => (match o with
      | some y => if acc.length < sizeLine then compD g body r (setK acc y.1 y.2) S1 else .bad
      | none => compD g body r acc S1) else .bad
def bodyD (vs : List Nat) (g : D → En → Sto → Rs En) (t : En → Sto → Rs Bool) (mk m : En → Sto → Rs D) (E : En) : D → Sto → Rs (Option (Key × D)) := fun d S =>
  (g d (wipeE vs E) S).bind fun E1 S1 => (t E1 S1).bind fun b S2 => if b = true then (mk E1 S2).bind fun k S3 => (m E1 S3).bind fun y S4 => (match toKey k with
    | some kk => .ok (some (kk, y)) S4
    | none => .bad) else .ok none S2
noncomputable def mCompD (mi : En → Sto → Rs AI) (vs : List Nat) (g : D → En → Sto → Rs En) (t : En → Sto → Rs Bool) (mk m : En → Sto → Rs D) : En → Sto → Rs (List (Key × D)) := fun E S => (mi E S).bind fun ai S1 =>
  (compD ai.g (bodyD vs g t mk m E) ai.items [] (lockS ai.lk S1)).bind fun ds S2 => unl ai.lk ds S2
theorem dc_read {mi : En → Sto → Rs AI} {vs : List Nat} {g : D → En → Sto → Rs En} {t : En → Sto → Rs Bool} {mk m : En → Sto → Rs D} {σ : St} {H : Hp} {Q : VK} (q : lTD (gX X) W (mCompD mi vs g t mk m) σ H Q) :
    tDc (lI X W mi) (lGo (gX X) W0 vs g) (lT (gX X) W0 t) (lE (gX X) W0 mk) (lE (gX X) W0 m) vs σ H fun v H' => ∃ H4, Un X H' H4 ∧ Q v H4 := by
  obtain ⟨p, S, E, hs, he, q⟩ := q
  refine ⟨p, S, E, hs, he, post_mono (fun ai S1 p1 H1 x1 hs1 q1 J H2 lk wd D hD => ?_) (post_bind q)⟩
  have hs2 := lk.rs hs1
  have x2 := lk.ext
  generalize lockS ai.lk S1 = S2 at lk hs2 q1
  have he2 : RE (gX X) p1 H2 (wipeE vs E) (wipe σ vs) := ((he.mono x1.pre x1.tup).mono x2.pre x2.tup).wipe vs
  refine ⟨fun i n H => ∃ p3 S3 acc us, n = ai.items.length - i ∧ i ≤ ai.items.length ∧ D ∉ p3 ∧ H D = some (.dK us) ∧ us.length ≤ sizeLine ∧ RKs (gX X) p3 H acc us ∧ Ext (gX X) p1 H2 p3 H ∧ RS (gX X) p3 S3 H ∧
    post (gX X) W p1 H1 (compD ai.g (bodyD vs g t mk m E) (ai.items.drop i) acc S3) (fun ds S' _ _ => post (gX X) W p1 H1 (unl ai.lk ds S') fun ds _ p' H' => ∀ a ws, H' a = none → ws.length ≤ sizeLine → RKs (gX X) p' H' ds ws → Q (.ref a) (upd H' a (.dK ws))),
    ⟨ai.items.length, p1, S2, [], [], by simp, Nat.zero_le _, hs2.notin hD, upd_same, Nat.zero_le _, .nil', Ext.new hD, hs2.frame hD, by simpa using post_bindB q1⟩, ?_⟩
  rintro i n H3 ⟨p3, S3, acc, us, rfl, hi, hn3, hD3, hz3, ra, x3, hs3, q3⟩
  by_cases hlt : i < ai.items.length
  · have hd : ai.items[i]? = some ai.items[i] := by simp [hlt]
    rw [List.drop_eq_getElem_cons hlt] at q3
    unfold compD at q3
    split at q3
    · rename_i hG
      refine .inr ⟨wd.go i p3 S3 H3 x3 hs3 hG hlt, fun H => ∃ p3 S3 acc us, ai.items.length - (i + 1) = ai.items.length - (i + 1) ∧ i + 1 ≤ ai.items.length ∧ D ∉ p3 ∧ H D = some (.dK us) ∧ us.length ≤ sizeLine ∧ RKs (gX X) p3 H acc us ∧ Ext (gX X) p1 H2 p3 H ∧ RS (gX X) p3 S3 H ∧
        post (gX X) W p1 H1 (compD ai.g (bodyD vs g t mk m E) (ai.items.drop (i + 1)) acc S3) (fun ds S' _ _ => post (gX X) W p1 H1 (unl ai.lk ds S') fun ds _ p' H' => ∀ a ws, H' a = none → ws.length ≤ sizeLine → RKs (gX X) p' H' ds ws → Q (.ref a) (upd H' a (.dK ws))), fun H' w => ⟨ai.items.length - (i + 1), by omega, w⟩, fun x H4 y => ?_⟩
      obtain ⟨x4, hs4, rx⟩ := wd.yld i p3 S3 H3 x H4 _ x3 hs3 hG hd y
      have x04 : Ext (gX X) p1 H1 p3 H4 := (x2.trans x3).trans x4
      have x24 := x3.trans x4
      obtain ⟨_, hD4⟩ := x4.frm D _ hn3 hD3 (fun _ z => by cases z)
      have q4 := post_noX (post_bindB q3)
      unfold bodyD at q4
      refine ⟨p3, S3, wipeE vs E, ai.items[i], hs4, he2.mono x24.pre x24.tup, rx, post_mono (fun E5 S5 p5 H5 x5 hs5 q5 σ5 he5 w5 => ⟨by rw [w5, wipe_idem], ?_⟩) (post_base x04 (post_bindB q4))⟩
      obtain ⟨hn5, hD5⟩ := x5.frm D _ hn3 hD4 (fun _ z => by cases z)
      have x05 := x04.trans x5
      refine ⟨p5, S5, E5, hs5, he5, post_mono (fun b S6 p6 H6 x6 hs6 q6 => ?_) (post_base x05 (post_bindB q5))⟩
      obtain ⟨hn6, hD6⟩ := x6.frm D _ hn5 hD5 (fun _ z => by cases z)
      have x06 := x05.trans x6
      have x26 := (x24.trans x5).trans x6
      cases b with
      | true =>
        refine ⟨p6, S6, E5, hs6, he5.mono x6.pre x6.tup, post_mono (fun ky S7 p7 H7 x7 hs7 q7 kv rkv => ?_) (post_base x06 (post_bindB q6))⟩
        obtain ⟨hn7, hD7⟩ := x7.frm D _ hn6 hD6 (fun _ z => by cases z)
        have x07 := x06.trans x7
        refine ⟨p7, S7, E5, hs7, (he5.mono x6.pre x6.tup).mono x7.pre x7.tup, post_mono (fun y S8 p8 H8 x8 hs8 q8 v rv => ?_) (post_base x07 (post_bindB q7))⟩
        obtain ⟨hn8, hD8⟩ := x8.frm D _ hn7 hD7 (fun _ z => by cases z)
        have x08 := x07.trans x8
        have x28 := (x26.trans x7).trans x8
        split at q8
        · rename_i kk hkk
          have ek := toKey_read (rkv.mono x8.pre x8.tup) hkk
          have q9 := q8 p8 H8 x08 hs8
          simp only at q9
          split at q9
          · rename_i hz
            have x48 := (((x4.trans x5).trans x6).trans x7).trans x8
            have e9 : RKs (gX X) p8 H8 acc us := ra.mono x48.pre x48.tup
            have hz' : us.length < sizeLine := by rw [← ra.length]; exact hz
            have k9 : Keep (gX X) H8 (upd H8 D (.dK (putK us kk v))) := Keep.set hD8 (.inl rfl)
            have hl9 : (putK us kk v).length ≤ sizeLine := by have := length_putK us kk v; omega
            refine ⟨us, kk, ek, hD8, hz', p8, S8, setK acc kk y, putK us kk v, rfl, hlt, hn8, upd_same, hl9, (e9.put rv).mono (Pre.refl _) k9, ?_, ?_, q9⟩
            · refine ⟨x28.pre, x28.tup.trans k9, fun b ob h1 h2 h3 => ⟨(x28.frm b ob h1 h2 h3).1, ?_⟩, fun b ob u h2 => ?_⟩
              · rw [upd_ne (ne_of_none h2 hD)]; exact (x28.frm b ob h1 h2 h3).2
              · rw [upd_ne (ne_of_none h2 hD)]; exact x28.frz b ob u h2
            · refine ⟨hs8.len, hs8.nd, fun n b ob e1 e2 => ?_⟩
              obtain ⟨z, ez, rz⟩ := hs8.get n b ob e1 e2
              have hb : b ≠ D := fun w => hn8 (by rw [← w]; exact mem_of_get e1)
              exact ⟨z, by rw [upd_ne hb]; exact ez, rz.mono (Pre.refl _) k9⟩
          · exact q9.elim
        · exact q8.elim
      | false =>
        have q8 := (q6 p6 H6 x06 hs6)
        exact ⟨p6, S6, acc, us, rfl, hlt, hn6, hD6, hz3, ra.mono ((x4.trans x5).trans x6).pre ((x4.trans x5).trans x6).tup, x26, hs6, q8⟩
    · exact q3.elim
  · have hi' : i = ai.items.length := by omega
    subst hi'
    rw [List.drop_length] at q3
    unfold compD at q3
    split at q3
    · rename_i hG
      have hsD := hs3.del hn3 hD3 rfl
      have xD := x3.del hD hD3 rfl
      obtain ⟨H7, S7, un, x7, hs7, k7, q7⟩ := unl_read lk xD hsD (q3 p3 H3 (x2.trans x3) hs3)
      obtain ⟨hn, un2⟩ := un_back hD3 un
      exact .inl ⟨wd.stop p3 S3 H3 x3 hs3 hG, _, un2, q7 D us hn hz3 (ra.mono (Pre.refl _) ((Keep.del hD3 rfl).trans k7))⟩
    · exact q3.elim
theorem td_dc {kx vx tg iter : Expr} {ifs : List Expr} {scope : Scope} {own : List (Str × Nat)} {pos : Pos} {mi : En → Sto → Rs AI} {g : D → En → Sto → Rs En} {t : En → Sto → Rs Bool} {mk m : En → Sto → Rs D} (hc : X.calm = true) (hN : X.N.Nodup) (hi : MI X W tg iter mi) (ok : BlkOk X.N X.env.scope scope own)
    (hg : ∀ (s : Shared) (H : Hp) (C : Addr) (cl : List (Str × Addr)) (fp : List Addr), MGo (X.blk s H scope (compEnvC scope cl C X.env) fp) W0 (own.map (·.2)) tg g) (ht : ∀ (s : Shared) (H : Hp) (C : Addr) (cl : List (Str × Addr)) (fp : List Addr), MTs (X.blk s H scope (compEnvC scope cl C X.env) fp) W0 ifs t)
    (hk : ∀ (s : Shared) (H : Hp) (C : Addr) (cl : List (Str × Addr)) (fp : List Addr), ME (X.blk s H scope (compEnvC scope cl C X.env) fp) W0 kx mk)
    (he : ∀ (s : Shared) (H : Hp) (C : Addr) (cl : List (Str × Addr)) (fp : List Addr), ME (X.blk s H scope (compEnvC scope cl C X.env) fp) W0 vx m) (hs : ∀ x, foldedSetIterable iter X.env x = pure x := by intro _; rfl) :
    TDi X W (.DictComp kx vx [⟨tg, iter, ifs, 0⟩] scope pos) (mCompD mi (own.map (·.2)) g t mk m) := PE.imp (pe_unl (pe_dc hc hN hi ok hg ht hk he hs)) fun _ _ _ q => dc_read q
def mAdD (m : En → Sto → Rs (List (Key × D))) : En → Sto → Rs D := fun E S => (m E S).bind fun ds S1 => .ok (.ref S1.length) (S1 ++ [.dk ds])
theorem me_adD {e : Expr} {m : En → Sto → Rs (List (Key × D))} (h : TDi X W e m) : ME X W e (mAdD m) := PE.imp h fun σ H Q q => by
  obtain ⟨p, S, E, hs, he, q⟩ := q
  refine ⟨p, S, E, hs, he, post_mono (fun ds S1 p1 H1 x1 hs1 q1 a ws ha hz rv => ?_) (post_bind q)⟩
  exact new_obj hs1 (o := .dk ds) ⟨ws, rfl, rv⟩ q1 ha
end
end M

namespace M
open PySem L2 PySem.Spec
/-! ### a lambda of one parameter -/
structure LamS1 (sc scope : Scope) (x : Str) : Prop where
  kind : scope.kind = .function
  co : scope.isCoroutine = false
  gen : scope.isGenerator = false
  own : ∀ y ∈ scope.names, y.2 ≠ .cell ∧ (y.2 = .local → y.1 = x)
  par : scope.names.lookup x = some .local
  free : ∀ y ∈ scope.names, y.2 = .free → sc.names.lookup y.1 = some .cell ∨ sc.names.lookup y.1 = some .free
def lamB1 (sc scope : Scope) (x : Str) : Bool :=
  decide (scope.kind = .function) && !scope.isCoroutine && !scope.isGenerator && decide (scope.names.lookup x = some .local) && scope.names.all fun y => !decide (y.2 = .cell) && (!decide (y.2 = .local) || decide (y.1 = x)) && (!decide (y.2 = .free) || decide (sc.names.lookup y.1 = some .cell) || decide (sc.names.lookup y.1 = some .free))
theorem lamS1_by {sc scope : Scope} {x : Str} (h : lamB1 sc scope x = true) : LamS1 sc scope x := by
  unfold lamB1 at h
  simp only [Bool.and_eq_true, Bool.or_eq_true, Bool.not_eq_true', decide_eq_true_eq, decide_eq_false_iff_not, List.all_eq_true] at h
  obtain ⟨⟨⟨⟨h1, h2⟩, h3⟩, h4⟩, h5⟩ := h
  refine ⟨h1, h2, h3, fun y hy => ⟨(h5 y hy).1.1, fun e => ?_⟩, h4, fun y hy e => ?_⟩
  · rcases (h5 y hy).1.2 with z | z
    · exact absurd e z
    · exact z
  · rcases (h5 y hy).2 with (z | z) | z
    · exact absurd e z
    · exact .inl z
    · exact .inr z
section
variable {X : Cx} {pins : List (Addr × Obj)} {σ : L2.St} {H : Hp} {s s1 : Shared}
theorem LamS1.has {scope : Scope} {x : Str} (L : LamS1 X.env.scope scope x) (ok : X.Ok) : ∀ y ∈ scope.names, y.2 = .free → ∃ c, X.env.cells.lookup y.1 = some c := fun y hy e => by
  rcases L.free y hy e with k | k
  · exact ok.has _ (.inl k)
  · exact ok.has _ (.inr k)
theorem lam_start1 {A : Around} {outer : List Env} {E : XK} {scope : Scope} {x : Str} {i : Nat} {f c' : Addr} {h₁ : Heap} {tk : Nat} {v : V} {u : Value} (I : Inv X pins σ H s) (L : LamS1 X.env.scope scope x) (hN : X.N.Nodup) (hi : X.N[i]? = some x) (rv : RelV v u) (e0 : Env0 X.prog X.w X.K X.mg X.base A outer s H) (hd : A.handled = none)
    (hns : h₁.Ns s.heap.objs.size fun y => ([(x, u)] : List (Str × Value)).reverse.lookup y) (kp : ∀ b o, s.heap.get? b = some o → h₁.get? b = some o) :
    Inv (LamX.lamCx X A outer s H E scope f c') [] (σ.set i (some v)) H { s with heap := h₁, toks := tk } := by
  have hfree := L.has I.ok
  have cm : ∀ {y c}, (cloFrom X.env.cells scope.names []).lookup y = some c → X.env.cells.lookup y = some c := fun {y c} e => by
    rcases cloFrom_mem (PySem.mem_of_lookup e) with hm | ⟨h1, h2⟩
    · cases hm
    · obtain ⟨c1, hc⟩ := hfree _ h1 rfl
      have hc : X.env.cells.lookup y = some c1 := hc
      have e2 : c = c1 := by
        rw [h2, hc] <;> rfl
      rw [e2]
      exact hc
  have look : ∀ {y}, scope.names.lookup y = some .free → ∃ c, (cloFrom X.env.cells scope.names []).lookup y = some c := fun {y} hl => by
    have hy : (y, NameKind.free) ∈ scope.names := PySem.mem_of_lookup hl
    exact mem_lookup (cloFrom_has (cells := X.env.cells) (acc := []) hy)
  have cellK : ∀ {c : Addr} {v : Option Value}, s.heap.IsCell c v → h₁.IsCell c v := fun {c v} ⟨o, ho, hd⟩ => ⟨o, kp _ _ ho, hd⟩
  have noA : ∀ b : Addr, b ∉ (LamX.lamCx X A outer s H E scope f c').ex := fun b z => absurd (show b ∈ ([] : List Addr) from z) (by simp)
  refine ⟨⟨e0.mod, L.kind, rfl, rfl, Nat.le_refl _, fun y z c e1 e2 => I.ok.inj y z c (cm e1) (cm e2), fun y hy => ?_, fun y c z _ => ?_, fun _ => hd, Around.frames_deeper e0.frames, .inr ⟨rfl, rfl⟩, fun b z => absurd z (noA b), e0.bs, e0.bsz, fun b _ _ => noA b,
      fun b z => absurd z (noA b), e0.funs, e0.frf⟩,
    rfl, e0.bare, Un.kept kp, ⟨_, hns, fun j y w e1 e2 e3 => ?_⟩, fun y c e => ?_, e0.hok.fresh (Nat.le_refl _), fun y c e => ?_, fun q hq => absurd (show q ∈ ([] : List (Addr × Obj)) ++ [] from hq) (by simp), e0.hok.kept kp, by rw [List.length_set]; exact I.len⟩
  · have hy : scope.names.lookup y = some .cell ∨ scope.names.lookup y = some .free := hy
    rcases hy with hy | hy
    · exact absurd rfl (L.own _ (PySem.mem_of_lookup hy)).1
    · exact look hy
  · have z : false = true := z
    cases z
  · have e3 : Vis scope y := e3
    rcases e3 with k | k | k
    · have ey : y = x := (L.own _ (PySem.mem_of_lookup k)).2 rfl
      subst ey
      have ej : j = i := nodup_ix hN e1 hi
      subst ej
      have hj : j < σ.length := by rw [I.len]; exact (List.getElem?_eq_some_iff.mp hi).1
      rw [List.getElem?_set_self hj] at e2
      cases e2
      exact ⟨u, rv, .inl ⟨k, by simp⟩⟩
    · exact absurd rfl (L.own _ (PySem.mem_of_lookup k)).1
    · have hne : i ≠ j := fun e => by
        subst e
        have e4 : X.N[i]? = some y := e1
        rw [hi] at e4
        cases e4
        rw [L.par] at k
        cases k
      rw [List.getElem?_set_ne hne] at e2
      obtain ⟨m, hn, hl⟩ := I.loc
      have hvis : Vis X.env.scope y := (L.free _ (PySem.mem_of_lookup k) rfl).elim (fun k => .inr (.inl k)) (fun k => .inr (.inr k))
      obtain ⟨w', r, q⟩ := hl j y w e1 e2 hvis
      obtain ⟨c2, h2⟩ := look k
      refine ⟨w', r, .inr ⟨.inr k, c2, h2, ?_⟩⟩
      have c1 := cm h2
      rcases q with ⟨k', _⟩ | ⟨_, c3, e', z⟩
      · have k' : X.env.scope.names.lookup y = some .local := k'
        rcases L.free _ (PySem.mem_of_lookup k) rfl with k2 | k2 <;> rw [show X.env.scope.names.lookup y = _ from k2] at k' <;> cases k'
      · rw [c1] at e'
        cases e'
        exact cellK z
  · obtain ⟨w', z⟩ := I.cell y c (cm e)
    exact ⟨w', cellK z⟩
  · exact I.freeC y c (cm e)
/-- the lambda called, from a built-in -/
theorem lam_call1 {scope : Scope} {x : Str} {i k : Nat} {f c' : Addr} {pm ctv : Value} {params : Arguments} {body : Expr} {tb : TE} {v : V} {u : Value} {Q : VK} (I : Inv X pins σ H s) (L : LamS1 X.env.scope scope x) (hN : X.N.Nodup) (hi : X.N[i]? = some x) (rv : RelV v u)
    (hf : s.heap.get? f = some (PySem.W.kla_obj "<lambda>" (X.env.qual ++ "<lambda>") params body scope (cloFrom X.env.cells scope.names []) pm c' ctv)) (hco : H c' = some (LamX.CodeO c' (X.env.qual ++ "<lambda>")))
    (hbind : bindArgs (PySem.W.kla_fn "<lambda>" (X.env.qual ++ "<lambda>") params body scope (cloFrom X.env.cells scope.names []) pm (.ref c') ctv) ⟨[u], []⟩ = pure [(x, u)]) (hr : Room (k + 1) X.A.in1)
    (hbody : ∀ (A : Around) (outer : List Env) (s : Shared) (H : Hp) (E : XK), Room k (A.deeper (LamX.lamEnv X scope s.heap.objs.size f c')) → PE (LamX.lamCx X A outer s H E scope f c').nox body tb) (ht : tb (σ.set i (some v)) H Q) :
    wpAny (model X.prog X.w) X.A.in1 (call (.ref f) [u]) (EP X pins σ Q) (fun _ _ => False) s := by
  obtain ⟨⟨oc, vs, t, hoc, hdc, hvc⟩, _, _⟩ := I.hok c' _ hco
  have e0 : Env0 X.prog X.w X.K X.mg X.base X.A.in1 X.stack s H := I.env0.in1
  have rc : codeAny (model X.prog X.w) X.A.in1 (.call (.ref f) ⟨[u], []⟩) (fun r s' => match r with | .ok (.ret w) => CE X.stack X.prog X.w H s Q w s' | _ => False) s := by
    refine PySem.W.kla_callFunE hr.depth hf rfl L.co L.gen rfl ⟨c', oc, vs, t, rfl, hoc, hdc, hvc⟩ ?_
    rw [hbind]
    refine wpAny_pure (wpAny_newFunctionEnv (fun y hy => (L.own y hy).1) (fun y hy => ?_) (fun h₁ hns hsb => ⟨I.nolimit.fresh _ hsb, ?_⟩) L.kind)
    · have : y = (x, u) := by simpa using hy
      rw [this]
      exact L.par
    · show codeAny _ _ (.expr body (LamX.lamEnv X scope s.heap.objs.size f c')) _ _
      have kp : ∀ b o, s.heap.get? b = some o → h₁.get? b = some o := fun b o e => hsb.extBut b o (Nat.ne_of_lt (Heap.lt_size e)) (Heap.get?_push_of_some _ e)
      have J : Inv (LamX.lamCx X X.A.in1 X.stack s H E0 scope f c') [] (σ.set i (some v)) H { s with heap := h₁, toks := s.toks + ([(x, u)] : List (Str × Value)).length } := lam_start1 I L hN hi rv e0 hr.hd hns kp
      refine PySem.W.kla_codeExpr (wpAny_mono ((hbody _ _ s H E0 (hr.deeper _)).run [] _ _ H Q (J.wish _) ht) (fun w s' hq => ?_) fun e s' hq => False.elim hq)
      obtain ⟨w', H', J', r', q⟩ := hq
      exact ⟨w', H', J'.os, J'.bare, J'.base, J'.hok, r', q⟩
  refine wpAny_call (codeAny_mono rc fun r s' hq => ?_)
  cases r with
  | error e => exact hq
  | ok fl =>
    cases fl with
    | ret u => exact I.after hq
    | next => exact False.elim hq
    | brk => exact False.elim hq
    | cont => exact False.elim hq
end
/-! ### min by a key -/
def minKL (key : D → Sto → Rs D) : List D → D → Int → Sto → Rs D
  | [], b, _, S => .ok b S
  | d :: r, b, kb, S => (noX (key d S)).bind fun k S1 => match k with
    | .int k => if k < kb then minKL key r d k S1 else minKL key r b kb S1
    | _ => .bad
def minK (key : D → Sto → Rs D) (ds : List D) (S : Sto) : Rs D := match ds with
  | [] => .bad
  | d :: r => (noX (key d S)).bind fun k S1 => match k with
    | .int k => minKL key r d k S1
    | _ => .bad
section
variable {X : Cx} {W : XW}
/-- the list that the built-in keeps its best in -/
abbrev bestO (u : Value) (k : Int) (t : Tok) (c : Nat) : Obj := PyProof.Rows.seqObj "list" #[u, .int k t] c
theorem minK_loop {pins : List (Addr × Obj)} {σ : L2.St} {E : En} {i n ep : Nat} {f d I0 S0 : Addr} {od of : Obj} {mb : En → Sto → Rs D} {cq : Str} {c' : Addr} {vs : List (Key × Value)} {kws : List (Key × V)} {p0 : List Addr} {H0 : Hp} {QQ : VK} {g0 : Heap}
    (hc : X.calm = true) (hdk : g0.DictAt (mixKind X.prog X.w) d vs ep) (hgd : g0.get? d = some od) (kv : KV kws vs) (hdI : d ≠ I0) (hSI : S0 ≠ I0) (hpf : (f, of) ∈ pins) (hH0 : H0 d = some (.frz od (.dK kws))) (hC0 : H0 c' = some (LamX.CodeO c' cq))
    (key : ∀ (pins' : List (Addr × Obj)) (s : Shared) (H : Hp) (v : V) (u : Value) (Q' : VK), Inv X pins' σ H s → (f, of) ∈ pins' → H c' = some (LamX.CodeO c' cq) → RelV v u → lE (gX X) W0 mb (σ.set i (some v)) H Q' → wpAny (model X.prog X.w) X.A.in1 (call (.ref f) [u]) (EP X pins' σ Q') (fun _ _ => False) s) :
    ∀ (rem : List (Key × V)) (j : Nat) (s : Shared) (H : Hp) (p : List Addr) (S : Sto) (best : D) (bv : V) (bu : Value) (kb : Int) (tb : Tok) (cnt : Nat), kws.drop j = rem → j ≤ kws.length →
      Inv X pins σ H s → FpOk X pins H I0 → FpOk X pins H S0 → s.heap.IsKeyIter I0 d j vs.length ep → s.heap.get? S0 = some (bestO bu kb tb cnt) → RS (gX X) p S H → RE (gX X) p H E σ → Ext (gX X) p0 H0 p H → RD (gX X) p H best bv → RelV bv bu →
      post (gX X) W p0 H0 (minKL (fun d S => mb (E.set i (some d)) S) (rem.map fun kv => kD kv.1) best kb S) (kE (gX X) QQ) →
      codeAny (model X.prog X.w) X.A (.builtin "min.loop" ⟨[.ref I0, .ref f, .ref S0], []⟩) (fun res s' => match res with | .ok (.ret u) => EP X pins σ QQ u s' | _ => False) s := by
  have hname : (toString "min" ++ toString ".loop" : String) = "min.loop" := by decide
  intro rem
  have hlen : kws.length = vs.length := Paired.length kv
  induction rem with
  | nil =>
    intro j s H p S best bv bu kb tb cnt hdrop hj I fI fS hit hS hs he x rb ru q
    have hjn : j = vs.length := by
      have := congrArg List.length hdrop
      simp at this; omega
    subst hjn
    have hdat : s.heap.DictAt (mixKind X.prog X.w) d vs ep := hdk.at' fun o e => by
      rw [hgd] at e; cases e
      obtain ⟨e1, _⟩ := I.hok d _ (x.frz _ _ _ hH0)
      exact e1
    have Wk := Walks.dictKeys (prog := X.prog) (w := X.w) (knd := mixKind X.prog X.w) (A := X.A.in1) (I.ok.hd hc) I0 d hdI vs ep
    refine codeAny_builtin PySem.F.entry_min_loop ?_
    rw [Around.under_plainId PySem.F.plain_min_loop _]
    show wpAny _ X.A.in1 (seqItems? (.ref S0) >>= _) _ _ _
    refine wpAny_bind (wpAny_seqItems hS rfl ?_)
    show wpAny _ X.A.in1 (tryCatch (pyNext (.ref I0)) _ >>= _) _ _ _
    refine wpAny_bind (wpAny_tryCatch (Wk.done _ _ _ ⟨hit, hdat⟩ fun h' tk' hk' => ?_))
    have I1 : Inv X pins σ H { s with heap := h', toks := tk' } := I.turned (fun b o hb e => hk' b o (by simpa using hb) e) fI.1 fI.2.1 fI.2.2.2.1 fI.2.2.2.2.1 fI.2.2.2.2.2
    have hS' := hk' S0 _ (by simpa using hSI) hS
    have s1 := Heap.SameBut.update h' S0 (Obj.mapSeq fun _ => (#[] : Array Value))
    show wpAny _ X.A.in1 (updateSeq S0 (fun _ => #[]) >>= _) _ _ _
    refine wpAny_bind ?_
    refine wpAny_updateSeq hS' rfl (wpAny_bind (wpAny_letGo (wpAny_pure ?_)))
    have I2 : Inv X pins σ H { s with heap := h'.update S0 (Obj.mapSeq fun _ => (#[] : Array Value)), toks := tk' } := I1.turned (t' := tk') (fun b o hb e => (s1.2 b hb).trans e) fS.1 fS.2.1 fS.2.2.2.1 fS.2.2.2.2.1 fS.2.2.2.2.2
    exact ⟨bv, H, I2, ru, q p H x hs bv rb⟩
  | cons hd rem ih =>
    intro j s H p S best bv bu kb tb cnt hdrop hj I fI fS hit hS hs he x rb ru q
    have hlt : j < kws.length := by
      have := congrArg List.length hdrop
      simp at this; omega
    have hget : kws[j]? = some hd := by
      have := congrArg (fun l => l[0]?) hdrop
      simpa using this
    obtain ⟨kk, vv⟩ := hd
    have hdat : s.heap.DictAt (mixKind X.prog X.w) d vs ep := hdk.at' fun o e => by
      rw [hgd] at e; cases e
      obtain ⟨e1, _⟩ := I.hok d _ (x.frz _ _ _ hH0)
      exact e1
    have Wk := Walks.dictKeys (prog := X.prog) (w := X.w) (knd := mixKind X.prog X.w) (A := X.A.in1) (I.ok.hd hc) I0 d hdI vs ep
    refine codeAny_builtin PySem.F.entry_min_loop ?_
    rw [Around.under_plainId PySem.F.plain_min_loop _]
    show wpAny _ X.A.in1 (seqItems? (.ref S0) >>= _) _ _ _
    refine wpAny_bind (wpAny_seqItems hS rfl ?_)
    show wpAny _ X.A.in1 (tryCatch (pyNext (.ref I0)) _ >>= _) _ _ _
    refine wpAny_bind (wpAny_tryCatch (Wk.item j _ _ _ (by omega) ⟨hit, hdat⟩ fun u h' tk' hP hst' hk' => ?_))
    obtain ⟨k2, x2, hv2, hk2⟩ := hP
    have ek : k2 = kk := by
      obtain ⟨w, hw, _⟩ := kv_get kv hget
      rw [hv2] at hw
      cases hw
      rfl
    subst ek
    have ruk : RelV (kV k2) u := relV_key hk2
    have I1 : Inv X pins σ H { s with heap := h', toks := tk' } := I.turned (fun b o hb e => hk' b o (by simpa using hb) e) fI.1 fI.2.1 fI.2.2.2.1 fI.2.2.2.2.1 fI.2.2.2.2.2
    have hS' := hk' S0 _ (by simpa using hSI) hS
    obtain ⟨oI, hoI, hoc, hod⟩ := id hst'.1
    -- the iterator and the list pinned
    have I2 : Inv X (pins ++ pinsAt [I0, S0] h') σ H { s with heap := h', toks := tk' } := I1.pinned (fp := [I0, S0]) (fun b hb => by
      have e' : b = I0 ∨ b = S0 := by simpa using hb
      rcases e' with rfl | rfl
      · exact fI
      · exact fS) (fun b hb => by
      have e' : b = I0 ∨ b = S0 := by simpa using hb
      rcases e' with rfl | rfl
      · exact ⟨oI, hoI, fun w z => by rw [hod] at z; cases z⟩
      · exact ⟨_, hS', fun w z => nomatch z⟩)
    have q1 := post_noX (post_bindB q)
    show wpAny _ X.A.in1 (tryCatch (holding [u] (call (.ref f) [u])) _ >>= _) _ _ _
    refine wpAny_bind (wpAny_tryCatch (wpAny_holding (wpAny_mono (key _ _ H (kV k2) u (fun kvv H2 => ∃ p2 S2 kd, RS (gX X) p2 S2 H2 ∧ Ext (gX X) p H p2 H2 ∧ RD (gX X) p2 H2 kd kvv ∧ post (gX X) W p0 H0 (match kd with
        | .int k => if k < kb then minKL (fun d S => mb (E.set i (some d)) S) (rem.map fun kv => kD kv.1) (kD k2) k S2 else minKL (fun d S => mb (E.set i (some d)) S) (rem.map fun kv => kD kv.1) best kb S2
        | _ => .bad) (kE (gX X) QQ)) I2 (List.mem_append_left _ hpf) (x.tup.cod _ _ hC0) ruk ⟨p, S, E.set i (some (kD k2)), hs, he.set (RD_key k2), post_mono (fun kd S2 p2 H2 x2 hs2 q2 kvv rk => ⟨p2, S2, kd, hs2, x2, rk, q2⟩) (post_base x q1)⟩) (fun kw s2 hq => ?_) fun _ _ hF => hF.elim)))
    obtain ⟨kvv, H2, I3, rkv, p2, S2, kd, hs2, x2, rk, q2⟩ := hq
    cases kd with
    | int kn =>
      obtain rfl : kvv = V.int kn := rk
      obtain ⟨t2, rfl⟩ := rkv
      have pinI := I3.pin (I0, oI) (List.mem_append_right _ (List.mem_append_right _ (mem_pinsAt (by simp) hoI)))
      have pinS := I3.pin (S0, bestO bu kb tb cnt) (List.mem_append_right _ (List.mem_append_right _ (mem_pinsAt (by simp) hS')))
      have I4 : Inv X pins σ H2 s2 := I3.unpinned
      have fI2 : FpOk X pins H2 I0 := ⟨pinI.2.1, fI.2⟩
      have fS2 : FpOk X pins H2 S0 := ⟨pinS.2.1, fS.2⟩
      have hit2 : s2.heap.IsKeyIter I0 d (j + 1) vs.length ep := ⟨oI, pinI.1, hoc, hod⟩
      have x02 := x.trans x2
      show wpAny _ X.A.in1 (tryCatch (holding [u, .int kn t2] (richCompare .Lt (.int kn t2) (.int kb tb) >>= _)) _ >>= _) _ _ _
      refine wpAny_bind (wpAny_tryCatch (wpAny_holding (wpAny_bind (CmpOf.ints_lt (prog := X.prog) (w := X.w) (A := X.A.in1) (P := fun i v => ∃ t, v = .int (if i = 0 then kn else kb) t) (fun i => if i = 0 then kn else kb) (fun i v h => h) 0 1 _ _ _ _ _ ⟨t2, rfl⟩ ⟨tb, rfl⟩ ?_))))
      refine wpAny_bind (wpAny_holding (wpAny_truthy_bool ?_))
      refine wpAny_bind (wpAny_letGo (wpAny_pure ?_))
      simp only at q2
      by_cases hb' : kn < kb
      · have s1 := Heap.SameBut.update s2.heap S0 (Obj.mapSeq fun _ => #[u, .int kn t2])
        obtain ⟨c2, hc2⟩ : ∃ c2, (s2.heap.update S0 (Obj.mapSeq fun _ => #[u, .int kn t2])).get? S0 = some (bestO u kn t2 c2) := ⟨_, PyProof.Rows.get?_update_seq pinS.1 fun _ => #[u, .int kn t2]⟩
        rw [if_pos hb'] at q2
        simp only [hb', Nat.one_ne_zero, decide_true, if_true, if_false]
        refine wpAny_bind ?_
        refine wpAny_updateSeq pinS.1 rfl (wpAny_bind (wpAny_letGo ?_))
        rw [hname]
        have I5 : Inv X pins σ H2 { s2 with heap := s2.heap.update S0 (Obj.mapSeq fun _ => #[u, .int kn t2]) } := I4.turned (t' := s2.toks) (fun b o hb e => (s1.2 b hb).trans e) fS2.1 fS2.2.1 fS2.2.2.2.1 fS2.2.2.2.2.1 fS2.2.2.2.2.2
        refine wpAny_pure ⟨plainId_quiet PySem.F.plain_min_loop _, ih (j + 1) _ H2 p2 S2 (kD k2) (kV k2) u kn t2 c2 ?_ hlt I5 fI2 fS2 ⟨oI, (s1.2 I0 (Ne.symm hSI)).trans pinI.1, hoc, hod⟩ hc2 hs2 (he.mono x2.pre x2.tup) x02 (RD_key k2) ruk q2⟩
        have := congrArg List.tail hdrop
        simpa using this
      · rw [if_neg hb'] at q2
        simp only [hb', Nat.one_ne_zero, decide_false, Bool.false_eq_true, if_true, if_false]
        refine wpAny_bind (wpAny_letGo ?_)
        rw [hname]
        refine wpAny_pure ⟨plainId_quiet PySem.F.plain_min_loop _, ih (j + 1) _ H2 p2 S2 best bv bu kb tb cnt ?_ hlt I4 fI2 fS2 hit2 pinS.1 hs2 (he.mono x2.pre x2.tup) x02 (rb.mono x2.pre x2.tup) ru q2⟩
        have := congrArg List.tail hdrop
        simpa using this
    | _ => exact q2.elim
end
end M

namespace M
open PySem L2 PySem.Spec
section
variable {X : Cx} {W : XW}
/-- min(d, key=f), d a locked dict -/
theorem minK_call {pins : List (Addr × Obj)} {s : Shared} {σ : L2.St} {H : Hp} {E : En} {i : Nat} {f d : Addr} {od of : Obj} {mb : En → Sto → Rs D} {cq : Str} {c' : Addr} {kws : List (Key × V)} {p : List Addr} {S : Sto} {QQ : VK}
    (hc : X.calm = true) (I : Inv X pins σ H s) (hpf : (f, of) ∈ pins) (hd : H d = some (.frz od (.dK kws))) (hC : H c' = some (LamX.CodeO c' cq)) (hs : RS (gX X) p S H) (he : RE (gX X) p H E σ)
    (key : ∀ (pins' : List (Addr × Obj)) (s : Shared) (H : Hp) (v : V) (u : Value) (Q' : VK), Inv X pins' σ H s → (f, of) ∈ pins' → H c' = some (LamX.CodeO c' cq) → RelV v u → lE (gX X) W0 mb (σ.set i (some v)) H Q' → wpAny (model X.prog X.w) X.A.in1 (call (.ref f) [u]) (EP X pins' σ Q') (fun _ _ => False) s)
    (q : post (gX X) W p H (minK (fun d S => mb (E.set i (some d)) S) (kws.map fun kv => kD kv.1) S) (kE (gX X) QQ)) :
    wpAny (model X.prog X.w) X.A (call (.builtin "min") [.ref d] [(Str.ofString "key", .ref f)]) (EP X pins σ QQ) X.xe s := by
  have hname : (toString "min" ++ toString ".loop" : String) = "min.loop" := by decide
  obtain ⟨hsys, hgd, hx, es, ep, vs, hdt, hsz, kv, hm⟩ := I.frzK hd
  have hlen : kws.length = vs.length := Paired.length kv
  refine PyProof.Rows.kmk_tree PySem.F.kind_min PySem.F.plain_min PySem.F.entry_min (PyProof.Rows.kmk_min_key _ _) ?_
  show wpAny _ X.A.in1 (Builtin.Builtins.bindParams "min" ["key", "default"] 0 ⟨[], [(Str.ofString "key", .ref f)]⟩ >>= _) _ _ s
  refine wpAny_bind (wpAny_of_eq (show Builtin.Builtins.bindParams "min" ["key", "default"] 0 ⟨[], [(Str.ofString "key", .ref f)]⟩ = pure [some (.ref f), none] from rfl) ?_)
  refine wpAny_bind (wpAny_pure ?_)
  refine wpAny_bind (iter_keys hsys hgd hx hdt ?_)
  refine wpAny_bind (wpAny_newList ?_ (Nat.zero_le _))
  rw [hname]
  have hdlt : d < s.heap.objs.size := Heap.lt_size hgd
  have hdI : d ≠ s.heap.objs.size := Nat.ne_of_lt hdlt
  generalize hoI : ({ cls := .type "dict_keyiterator", data := .fields #[.ref d, .int 0 0, .int es.size 0, .int ep 0] } : Obj) = oI0
  have hS0 : (s.heap.push oI0).objs.size = s.heap.objs.size + 1 := Heap.size_push ..
  have hSI : (s.heap.push oI0).objs.size ≠ s.heap.objs.size := by rw [hS0]; exact Nat.succ_ne_self _
  have Ia : Inv X pins σ H { s with heap := (s.heap.push oI0).push (PyProof.Rows.seqObj "list" #[] 0) } := I.kept (t' := s.toks) fun b o e => Heap.get?_push_of_some _ (Heap.get?_push_of_some _ e)
  have fI : FpOk X pins H s.heap.objs.size := I.fpOk (Nat.le_refl _) (I.hok.fresh (Nat.le_refl _))
  have fS : FpOk X pins H (s.heap.push oI0).objs.size := I.fpOk (by rw [hS0]; exact Nat.le_succ _) (I.hok.fresh (by rw [hS0]; exact Nat.le_succ _))
  refine wpAny_pure ⟨plainId_quiet PySem.F.plain_min_loop _, ?_⟩
  have gI : ((s.heap.push oI0).push (PyProof.Rows.seqObj "list" #[] 0)).get? s.heap.objs.size = some oI0 := Heap.get?_push_of_some _ (Heap.get?_push_size _ (by rw [← hoI]; rfl))
  have gS : ((s.heap.push oI0).push (PyProof.Rows.seqObj "list" #[] 0)).get? (s.heap.push oI0).objs.size = some (PyProof.Rows.seqObj "list" #[] 0) := Heap.get?_push_size _ rfl
  have hit : ((s.heap.push oI0).push (PyProof.Rows.seqObj "list" #[] 0)).IsKeyIter s.heap.objs.size d 0 vs.length ep := by
    refine ⟨oI0, gI, by rw [← hoI], ?_⟩
    rw [← hoI, ← hlen, ← hsz]
    rfl
  have hdat : ((s.heap.push oI0).push (PyProof.Rows.seqObj "list" #[] 0)).DictAt (mixKind X.prog X.w) d vs ep := hm.keep fun b o e => Heap.get?_push_of_some _ (Heap.get?_push_of_some _ e)
  generalize (s.heap.push oI0).push (PyProof.Rows.seqObj "list" #[] 0) = hA at *
  generalize (s.heap.push oI0).objs.size = S0 at *
  generalize s.heap.objs.size = I0 at *
  -- the first item
  cases kws with
  | nil => exact q.elim
  | cons kw0 rem =>
    obtain ⟨kk, vv⟩ := kw0
    have Wk := Walks.dictKeys (prog := X.prog) (w := X.w) (knd := mixKind X.prog X.w) (A := X.A.in1) (I.ok.hd hc) I0 d hdI vs ep
    refine codeAny_mono (R := fun res s' => match res with | .ok (.ret u) => EP X pins σ QQ u s' | _ => False) ?_ fun res s' h => ?_
    · refine codeAny_builtin PySem.F.entry_min_loop ?_
      rw [Around.under_plainId PySem.F.plain_min_loop _]
      show wpAny _ X.A.in1 (seqItems? (.ref S0) >>= _) _ _ _
      refine wpAny_bind (wpAny_seqItems gS rfl ?_)
      show wpAny _ X.A.in1 (tryCatch (pyNext (.ref I0)) _ >>= _) _ _ _
      refine wpAny_bind (wpAny_tryCatch (Wk.item 0 _ _ _ (by rw [← hlen]; exact Nat.succ_pos _) ⟨hit, hdat⟩ fun u h' tk' hP hst' hk' => ?_))
      obtain ⟨k2, x2, hv2, hk2⟩ := hP
      have ek : k2 = kk := by
        obtain ⟨w, hw, _⟩ := kv_get (i := 0) (k := kk) (v := vv) kv rfl
        rw [hv2] at hw
        cases hw
        rfl
      subst ek
      have ruk : RelV (kV k2) u := relV_key hk2
      have I1 : Inv X pins σ H { s with heap := h', toks := tk' } := Ia.turned (fun b o hb e => hk' b o (by simpa using hb) e) fI.1 fI.2.1 fI.2.2.2.1 fI.2.2.2.2.1 fI.2.2.2.2.2
      have hS' := hk' S0 _ (by simpa using hSI) gS
      obtain ⟨oI, hoI2, hoc, hod⟩ := id hst'.1
      have I2 : Inv X (pins ++ pinsAt [I0, S0] h') σ H { s with heap := h', toks := tk' } := I1.pinned (fp := [I0, S0]) (fun b hb => by
        have e' : b = I0 ∨ b = S0 := by simpa using hb
        rcases e' with rfl | rfl
        · exact fI
        · exact fS) (fun b hb => by
        have e' : b = I0 ∨ b = S0 := by simpa using hb
        rcases e' with rfl | rfl
        · exact ⟨oI, hoI2, fun w z => by rw [hod] at z; cases z⟩
        · exact ⟨_, hS', fun w z => nomatch z⟩)
      have q1 := post_noX (post_bindB q)
      show wpAny _ X.A.in1 (tryCatch (holding [u] (call (.ref f) [u])) _ >>= _) _ _ _
      refine wpAny_bind (wpAny_tryCatch (wpAny_holding (wpAny_mono (key _ _ H (kV k2) u (fun kvv H2 => ∃ p2 S2 kd, RS (gX X) p2 S2 H2 ∧ Ext (gX X) p H p2 H2 ∧ RD (gX X) p2 H2 kd kvv ∧ post (gX X) W p H (match kd with
          | .int k => minKL (fun d S => mb (E.set i (some d)) S) (rem.map fun kv => kD kv.1) (kD k2) k S2
          | _ => .bad) (kE (gX X) QQ)) I2 (List.mem_append_left _ hpf) hC ruk ⟨p, S, E.set i (some (kD k2)), hs, he.set (RD_key k2), post_mono (fun kd S2 p2 H2 x2 hs2 q2 kvv rk => ⟨p2, S2, kd, hs2, x2, rk, q2⟩) q1⟩) (fun kw s2 hq => ?_) fun _ _ hF => hF.elim)))
      obtain ⟨kvv, H2, I3, rkv, p2, S2, kd, hs2, x2, rk, q2⟩ := hq
      cases kd with
      | int kn =>
        obtain rfl : kvv = V.int kn := rk
        obtain ⟨t2, rfl⟩ := rkv
        have pinI := I3.pin (I0, oI) (List.mem_append_right _ (List.mem_append_right _ (mem_pinsAt (by simp) hoI2)))
        have pinS := I3.pin (S0, PyProof.Rows.seqObj "list" #[] 0) (List.mem_append_right _ (List.mem_append_right _ (mem_pinsAt (by simp) hS')))
        have I4 : Inv X pins σ H2 s2 := I3.unpinned
        have fI2 : FpOk X pins H2 I0 := ⟨pinI.2.1, fI.2⟩
        have fS2 : FpOk X pins H2 S0 := ⟨pinS.2.1, fS.2⟩
        have s1 := Heap.SameBut.update s2.heap S0 (Obj.mapSeq fun _ => #[u, .int kn t2])
        obtain ⟨c2, hc2⟩ : ∃ c2, (s2.heap.update S0 (Obj.mapSeq fun _ => #[u, .int kn t2])).get? S0 = some (bestO u kn t2 c2) := ⟨_, PyProof.Rows.get?_update_seq pinS.1 fun _ => #[u, .int kn t2]⟩
        show wpAny _ X.A.in1 (updateSeq S0 (fun _ => #[u, .int kn t2]) >>= _) _ _ _
        refine wpAny_bind ?_
        refine wpAny_updateSeq pinS.1 rfl ?_
        rw [hname]
        have I5 : Inv X pins σ H2 { s2 with heap := s2.heap.update S0 (Obj.mapSeq fun _ => #[u, .int kn t2]) } := I4.turned (t' := s2.toks) (fun b o hb e => (s1.2 b hb).trans e) fS2.1 fS2.2.1 fS2.2.2.2.1 fS2.2.2.2.2.1 fS2.2.2.2.2.2
        simp only at q2
        refine wpAny_pure ⟨plainId_quiet PySem.F.plain_min_loop _, minK_loop (n := 0) (QQ := QQ) (W := W) (p0 := p) (H0 := H) (E := E) (i := i) hc hm hgd kv hdI hSI hpf hd hC key rem 1 _ H2 p2 S2 (kD k2) (kV k2) u kn t2 c2 rfl (Nat.succ_le_succ (Nat.zero_le _)) I5 fI2 fS2 ⟨oI, (s1.2 I0 (Ne.symm hSI)).trans pinI.1, hoc, hod⟩ hc2 hs2 (he.mono x2.pre x2.tup) x2 (RD_key k2) ruk q2⟩
      | _ => exact q2.elim
    · cases res with
      | error e => exact h.elim
      | ok fl =>
        cases fl with
        | ret u => exact h
        | next => exact h.elim
        | brk => exact h.elim
        | cont => exact h.elim

/-! ### min(e, key=lambda x: body) -/
/-- the tables of the store -/
def tabsOf (S : Sto) : List (Addr × Str) := S.filterMap fun o => match o with
  | .tb P q => some (P, q)
  | _ => none
theorem tabs_of {K : KX} {p : List Addr} {S : Sto} {H : Hp} (hs : RS K p S H) : LamX.Tabs (tabsOf S) H := fun x hx => by
  obtain ⟨o, ho, e⟩ := List.mem_filterMap.mp hx
  obtain ⟨n, hn, en⟩ := List.getElem_of_mem ho
  have eS : S[n]? = some o := by rw [← en]; simp [hn]
  obtain ⟨a, ea⟩ := hs.lt eS
  obtain ⟨y, ey, ry⟩ := hs.get n a o ea eS
  cases o with
  | tb P q =>
    cases e
    obtain ⟨rfl, ps, rfl, h1, h2⟩ := ry
    exact ⟨ps, ey, h1, h2⟩
  | _ => cases e
/-- what the making of a lambda leaves of the store -/
theorem lam_rs {K : KX} {p : List Addr} {S : Sto} {H H1 : Hp} (hs : RS K p S H) (eN : LamX.ExtN H H1) (T1 : LamX.Tabs (tabsOf S) H1) : RS K p S H1 ∧ Ext K p H p H1 := by
  have kp : Keep K H H1 := Keep.of fun b o e hsf => eN b o e fun ps z => by subst z; exact hsf (.inl rfl)
  refine ⟨⟨hs.len, hs.nd, fun n a o ea eS => ?_⟩, Pre.refl _, kp, fun a o h1 h2 h3 => ⟨h1, eN a o h2 h3⟩, fun a o u h => eN a _ h fun _ z => by cases z⟩
  obtain ⟨y, ey, ry⟩ := hs.get n a o ea eS
  cases o with
  | tb P q =>
    obtain ⟨rfl, ps, rfl, _⟩ := ry
    obtain ⟨ps', h1, h2, h3⟩ := T1 (a, q) (List.mem_filterMap.mpr ⟨_, List.mem_of_getElem? eS, rfl⟩)
    exact ⟨_, h1, rfl, ps', rfl, h2, h3⟩
  | lst ds =>
    have hy : ∀ ps, y ≠ .tbl ps := fun ps z => by
      subst z
      obtain ⟨vs, e, _⟩ := ry
      cases e
    exact ⟨y, eN a y ey hy, ry.mono (Pre.refl _) kp⟩
  | dk kvs =>
    have hy : ∀ ps, y ≠ .tbl ps := fun ps z => by
      subst z
      obtain ⟨vs, e, _⟩ := ry
      cases e
    exact ⟨y, eN a y ey hy, ry.mono (Pre.refl _) kp⟩
  | fd kvs =>
    have hy : ∀ ps, y ≠ .tbl ps := fun ps z => by
      subst z
      obtain ⟨ob, vs, e, _⟩ := ry
      cases e
    exact ⟨y, eN a y ey hy, ry.mono (Pre.refl _) kp⟩
  | dn kvs =>
    refine ⟨y, eN a y ey (fun ps z => ?_), ry.mono (Pre.refl _) kp⟩
    subst z
    obtain ⟨vs, e, _⟩ := ry
    cases e
  | fn kvs =>
    refine ⟨y, eN a y ey (fun ps z => ?_), ry.mono (Pre.refl _) kp⟩
    subst z
    obtain ⟨ob, vs, e, _⟩ := ry
    cases e
  | ex c fs =>
    refine ⟨y, eN a y ey (fun ps z => ?_), ry.mono (Pre.refl _) kp⟩
    subst z
    obtain ⟨d, e, _⟩ := ry
    cases e
def keysOf (S : Sto) (d : D) : Option (Nat × List (Key × D)) := match d with
  | .ref n => match S[n]? with
    | some (.dk kvs) => some (n, kvs)
    | _ => none
  | _ => none
def mMinKey (P : Addr) (q : Str) (ti i : Nat) (m mb : En → Sto → Rs D) : En → Sto → Rs D := fun E S => (m E S).bind fun d S1 => match S1[ti]? with
  | some (.tb P' q') => if P' = P ∧ q' = q then (match keysOf S1 d with
    | some (n, kvs) => (minK (fun d S => mb (E.set i (some d)) S) (kvs.map fun kv => kD kv.1) (S1.set n (.fd kvs))).bind fun b S2 => unl (some n) b S2
    | none => .bad) else .bad
  | _ => .bad
theorem me_minKey {e body : Expr} {params : Arguments} {scope : Scope} {x : Str} {i ti k : Nat} {P c : Addr} {m mb : En → Sto → Rs D} {pp pos lpos kpos : Pos} (hc : X.calm = true) (hg : Gl X "min") (hm : X.mg "min" = none) (he : ME X W e m) (TB : LamX.TabB X.base X.mg c P) (hcode : X.env.code = .ref c) (L : LamS1 X.env.scope scope x) (hN : X.N.Nodup) (hi : X.N[i]? = some x)
    (hdef : defaultsOf params X.env = ([], [])) (hbind : ∀ (q : Str) (cl : List (Str × Addr)) (pm cv ctv u : Value), bindArgs (PySem.W.kla_fn "<lambda>" q params body scope cl pm cv ctv) ⟨[u], []⟩ = pure [(x, u)]) (hr : Room (k + 1) X.A.in1)
    (hbody : ∀ (A : Around) (outer : List Env) (s : Shared) (H : Hp) (E : XK) (f c' : Addr), Room k (A.deeper (LamX.lamEnv X scope s.heap.objs.size f c')) → ME (LamX.lamCx X A outer s H E scope f c').nox W0 body mb)
    (hst : starEach [e] X.env = [(false, eval e X.env)] := by rfl) (hkw : (keywordEach [⟨some "key", .Lambda params body scope lpos, kpos⟩] X.env) = [(some (Str.ofString "key"), eval (.Lambda params body scope lpos) X.env)] := by rfl) :
    ME X W (.Call (.Name "min" pp) [e] [⟨some "key", .Lambda params body scope lpos, kpos⟩] pos) (mMinKey P (X.env.qual ++ "<lambda>") ti i m mb) := by
  refine ⟨fun pins s σ H Q I q => ?_⟩
  obtain ⟨p, S, E, hs, hE, q⟩ := q
  refine wpAny_Call_Name_kw (ld_blt I hg hm PyProof.Rows.boot_min ?_)
  refine PyProof.Rows.callWith_kw (thn ((pa_cons he pa_nil hst).run pos pins s σ H (fun vs H1 => ∃ v p1 S1 d, vs = [v] ∧ RS (gX X) p1 S1 H1 ∧ Ext (gX X) p H p1 H1 ∧ RD (gX X) p1 H1 d v ∧ post (gX X) W p1 H1 (match S1[ti]? with
      | some (.tb P' q') => if P' = P ∧ q' = X.env.qual ++ "<lambda>" then (match keysOf S1 d with
        | some (n, kvs) => (minK (fun d S => mb (E.set i (some d)) S) (kvs.map fun kv => kD kv.1) (S1.set n (.fd kvs))).bind fun b S2 => unl (some n) b S2
        | none => .bad) else .bad
      | _ => .bad) (kE (gX X) Q)) I ⟨p, S, E, hs, hE, post_mono (fun d S1 p1 H1 x1 hs1 q1 v rv => ⟨v, p1, S1, d, rfl, hs1, x1, rv, q1⟩) (post_bind q)⟩) fun us s1 ⟨vs, H1, I1, r1, v, p1, S1, d, e1, hs1, x1, rv, q1⟩ => ?_) (by rw [hst]; rfl) (by rw [hst]; rfl) rfl rfl
  subst e1
  obtain ⟨u, rfl, ru⟩ := vals1 r1
  show wpAny _ _ (evalAll ((do let v ← eval (.Lambda params body scope lpos) X.env; standAt pos; pure v) :: [])) _ _ s1
  split at q1
  · rename_i P' q' ht
    split at q1
    · rename_i hPq
      obtain ⟨rfl, rfl⟩ := hPq
      split at q1
      · rename_i n kvs hk
        have hmT : (P', X.env.qual ++ "<lambda>") ∈ tabsOf S1 := List.mem_filterMap.mpr ⟨_, List.mem_of_getElem? ht, rfl⟩
        have hu : ∀ x ∈ tabsOf S1, x.1 = P' → x.2 = X.env.qual ++ "<lambda>" := fun x hx ex => by
          obtain ⟨o, ho, e⟩ := List.mem_filterMap.mp hx
          obtain ⟨m', hm', em⟩ := List.getElem_of_mem ho
          have eS : S1[m']? = some o := by rw [← em]; simp [hm']
          cases o with
          | tb P2 q2 =>
            cases e
            obtain ⟨a, ea⟩ := hs1.lt eS
            obtain ⟨y, ey, rfl, _⟩ := hs1.get m' a _ ea eS
            obtain ⟨b, eb⟩ := hs1.lt ht
            obtain ⟨z, ez, rfl, _⟩ := hs1.get ti b _ eb ht
            have eab : a = b := ex
            subst eab
            obtain ⟨h1, q1'⟩ := List.getElem?_eq_some_iff.mp ea
            obtain ⟨h2, q2'⟩ := List.getElem?_eq_some_iff.mp eb
            have : m' = ti := (List.getElem_inj hs1.nd).mp (q1'.trans q2'.symm)
            subst this
            rw [ht] at eS
            cases eS
            rfl
          | _ => cases e
        refine wpAny_evalAll_cons (wpAny_bind (LamX.lam_make2 I1 TB hcode hmT hu (tabs_of hs1) hdef (L.has I1.ok) fun f c' pm ctv H2 s2 I2 eN T2 hf hfn hfr hco => wpAny_bind (wpAny_standAt (wpAny_pure (wpAny_evalAll_nil ?_)))))
        show wpAny _ _ (call (.builtin "min") [u] [(Str.ofString "key", .ref f)]) _ _ s2
        obtain ⟨hs2, x2⟩ := lam_rs hs1 eN T2
        unfold keysOf at hk
        split at hk
        · rename_i n'
          split at hk
          · rename_i kvs' hd'
            cases hk
            obtain ⟨a, ea, rfl⟩ := rv
            obtain rfl : u = Value.ref a := ru
            obtain ⟨y, ey, ws, rfl, rk⟩ := hs2.get n a _ ea hd'
            obtain ⟨od, I3⟩ := I2.lock ey True.intro
            have hno := I2.nofrz ey True.intro
            have lk : Lk X p1 H2 S1 (some n) (upd H2 a (.frz od (.dK ws))) (S1.set n (.fd kvs)) := .some ea ey hno hd' rk
            have hs3 := lk.rs hs2
            have x3 := lk.ext
            have x03 := x2.trans x3
            have hE3 : RE (gX X) p1 (upd H2 a (.frz od (.dK ws))) E σ := ((hE.mono x1.pre x1.tup).mono x2.pre x2.tup).mono x3.pre x3.tup
            -- the lambda's object pinned
            have nL : f ≠ X.env.locals := fun z => by
              obtain ⟨m0, ⟨o', es, ep, ho', hd0, _⟩, _⟩ := I3.loc
              rw [← z, hf] at ho'
              cases ho'
              cases hd0
            have nfs : f ∉ X.fs := fun z => hfr (by
              rcases I3.ok.stk with e | ⟨e, _⟩
              · rw [e]; exact z
              · rw [e]
                unfold frs
                rw [List.filterMap_cons]
                split
                · exact z
                · exact List.mem_cons_of_mem _ z)
            have nfa : f ≠ a := fun z => by rw [z, ey] at hfn; cases hfn
            have hfn3 : upd H2 a (.frz od (.dK ws)) f = none := by rw [upd_ne nfa]; exact hfn
            have I4 : Inv X (pins ++ [(f, PySem.W.kla_obj "<lambda>" (X.env.qual ++ "<lambda>") params body scope (cloFrom X.env.cells scope.names []) pm c' ctv)]) σ (upd H2 a (.frz od (.dK ws))) s2 := I3.pins_of fun x hx => by
              rcases List.mem_append.mp hx with hx | hx
              · exact I3.pin x (List.mem_append_right _ hx)
              · have e' := List.mem_singleton.mp hx
                subst e'
                exact ⟨hf, hfn3, nL, nfs, fun w z => nomatch z⟩
            have hco3 : upd H2 a (.frz od (.dK ws)) c' = some (LamX.CodeO c' (X.env.qual ++ "<lambda>")) := x3.tup.cod _ _ hco
            have ekeys : (kvs.map fun kv => kD kv.1) = ws.map fun kv => kD kv.1 := by
              have := congrArg (List.map kD) rk.1
              rw [List.map_map, List.map_map] at this
              exact this
            have q2 := post_bindB q1
            rw [ekeys] at q2
            have fin : wpAny (model X.prog X.w) X.A (call (.builtin "min") [.ref a] [(Str.ofString "key", .ref f)]) (EP X (pins ++ [(f, PySem.W.kla_obj "<lambda>" (X.env.qual ++ "<lambda>") params body scope (cloFrom X.env.cells scope.names []) pm c' ctv)]) σ (fun v H' => ∃ H4, Un X H' H4 ∧ Q v H4)) X.xe s2 := by
              refine minK_call (W := W) (i := i) (mb := mb) (p := p1) (S := S1.set n (.fd kvs)) (E := E) hc I4 (List.mem_append_right _ (List.mem_singleton.mpr rfl)) upd_same hco3 hs3 hE3 (fun pins' s' H' v' u' Q' I' hp' hC' rv' hq' => ?_) (post_mono (fun b S5 p5 H5 x5 hs5 q5 w rw' => ?_) (post_base x03 q2))
              · refine lam_call1 (i := i) (k := k) I' L hN hi rv' (I'.pin _ (List.mem_append_right _ hp')).1 hC' (hbind _ _ _ _ _ _) hr (fun A outer s H E hr' => hbody A outer s H E f c' hr') hq'
              · obtain ⟨H7, S7, un, x7, hs7, k7, q7⟩ := unl_read lk x5 hs5 (post_base x2 q5)
                exact ⟨H7, un, q7 w (rw'.mono (Pre.refl _) k7)⟩
            refine thn fin fun w s3 ⟨x, H5, I5, r5, H7, un, q7⟩ => ⟨x, H7, un.inv (I5.pins_of fun y hy => I5.pin y (List.mem_append_right _ (List.mem_append_left _ hy))), r5, q7⟩
          · cases hk
        · cases hk
      · exact q1.elim
    · exact q1.elim
  · exact q1.elim
end
end M

namespace M
open PySem L2 PySem.Spec
section
variable {X : Cx} {W : XW}
/-! ### d.values() as a value; max, min of it -/
def ViewO (a d : Addr) : HO := .ext fun h => h.get? a = some { cls := .type "dict_values", data := .fields #[.ref d] }
theorem pe_view {e : Expr} {td : TE} {apos cpos : Pos} (he : PE X e td) (hbase : attributeBase e "values" X.env (eval e X.env) = eval e X.env := by rfl) (hline : (apos.endLine == cpos.line) = true := by rfl) :
    PE X (.Call (.Attribute e "values" apos) [] [] cpos) (fun σ H Q => td σ H fun x H1 => ∃ d kvs, x = .ref d ∧ Rd H1 d (.dK kvs) ∧ ∀ a, H1 a = none → Q (.ref a) (upd H1 a (ViewO a d))) := by
  refine ⟨fun pins s σ H Q I h => ?_⟩
  refine wpAny_Call_method (T := "dict") (id := "dict.values") hbase rfl hline F.plainAttrs_dict F.slot_dict_values F.type_dict_values (thn (he.run pins s σ H _ I h) fun u s1 ⟨x, H1, I1, rx, d, kvs, ex, hd, q⟩ => ?_)
  subst ex
  obtain rfl : u = Value.ref d := rx
  obtain ⟨z, hs, vs, kv, hm⟩ := dk_rd I1.hok hd
  refine ⟨hm.typeIs, hm.mapOf.noDict, ?_⟩
  have hn : H1 s1.heap.objs.size = none := I1.hok.fresh (Nat.le_refl _)
  have g : (s1.heap.push { cls := .type "dict_values", data := .fields #[.ref d] }).get? s1.heap.objs.size = some { cls := .type "dict_values", data := .fields #[.ref d] } := Heap.get?_push_size _ rfl
  have I2 : Inv X pins σ (upd H1 s1.heap.objs.size (ViewO s1.heap.objs.size d)) { s1 with heap := s1.heap.push { cls := .type "dict_values", data := .fields #[.ref d] } } := I1.laid (t' := s1.toks) (fun b ob q => Heap.get?_push_of_some _ q) (Nat.le_refl _)
    ⟨g, ⟨_, g⟩, fun h1 h2 e1 k => k _ e1⟩
  have fin : EP X pins σ Q (.ref s1.heap.objs.size) { s1 with heap := s1.heap.push { cls := .type "dict_values", data := .fields #[.ref d] } } := ⟨.ref s1.heap.objs.size, _, I2, rfl, q _ hn⟩
  show wpAny _ _ (callWith cpos (.builtin "dict.values") [.ref d] [] []) _ X.xe s1
  exact method_meetsIn F.slot_dict_values F.entry_dict_values rfl (PySem.evalArgs_none ⟨rfl, hm.typeIs, F.args_dict_values_1 _, _, meets_dict_values (mixKind X.prog X.w) d hs, ⟨vs, hm⟩, fin⟩)
def rMaxV : List V → Hp → VK → Prop := fun xs H Q => ∃ a d kvs ns, xs = [.ref a] ∧ H a = some (ViewO a d) ∧ Rd H d (.dK kvs) ∧ kvs.map (·.2) = List.map V.int ns ∧ 0 < ns.length ∧ ∀ m, m ∈ ns → (∀ y, y ∈ ns → y ≤ m) → Q (.int m) H
theorem cr_maxV (hc : X.calm = true) : CallR X (.builtin "max") rMaxV := by
  intro pins s σ H xs us Q I r h
  obtain ⟨a, d, kvs, ns, rfl, ha, hd, hns, hpos, q⟩ := h
  rw [Vals.ref1 r]
  obtain ⟨z, hs, vs, kv, hm0⟩ := dk_rd I.hok hd
  obtain ⟨ep, hm⟩ := hm0.dictAt
  obtain ⟨hv, _, _⟩ := I.hok a _ ha
  have hlen : kvs.length = vs.length := Paired.length kv
  have hln : kvs.length = ns.length := by have := congrArg List.length hns; simpa using this
  obtain ⟨od, hod, _⟩ := id hm
  have hdl : d < s.heap.objs.size := by
    obtain ⟨o, es, ho, _⟩ := hm
    exact Heap.lt_size ho
  have val : ∀ i v, (∃ k, vs[i]? = some (k, v)) → ∃ t, v = Value.int (ns.getD i 0) t := fun i v ⟨k, hk⟩ => by
    have hi : i < kvs.length := by rw [hlen]; exact (List.getElem?_eq_some_iff.mp hk).1
    have e0 : kvs[i]? = some (kvs[i].1, kvs[i].2) := by simp [hi]
    obtain ⟨u, hu, ru⟩ := kv_get kv e0
    rw [hk] at hu
    cases hu
    have e1 : (kvs.map (·.2))[i]? = some kvs[i].2 := by rw [List.getElem?_map, e0]; rfl
    rw [hns, List.getElem?_map] at e1
    cases hq : ns[i]? with
    | none => rw [hq] at e1; cases e1
    | some n =>
      rw [hq] at e1
      have e2 : V.int n = kvs[i].2 := by simpa using e1
      rw [← e2] at ru
      obtain ⟨t, rfl⟩ := ru
      exact ⟨t, by simp [hq]⟩
  refine call_max_walk (wpAny_pyIter_values (d := d) (knd := mixKind X.prog X.w) ⟨_, hv, rfl, rfl⟩ hm ?_)
  have hdI : d ≠ s.heap.objs.size := Nat.ne_of_lt hdl
  refine ⟨_, _, _, _, _, _, _, rfl, Walks.dictValues (prog := X.prog) (w := X.w) (knd := mixKind X.prog X.w) (A := X.A.in1) (I.ok.hd hc) s.heap.objs.size d hdI vs ep, ⟨⟨_, Heap.get?_push_size _ rfl, rfl, rfl⟩, hm.keep fun b o e => Heap.get?_push_of_some _ e⟩, fun b hb => ?_, by omega, CmpOf.ints_gt (fun i => ns.getD i 0) val, fun v h' tk hP hk => ?_⟩
  · show b < (s.heap.push _).objs.size
    rw [Heap.size_push]
    have e' : b = s.heap.objs.size ∨ b = d := by simpa using hb
    rcases e' with rfl | rfl
    · exact Nat.lt_succ_self _
    · exact Nat.lt_succ_of_lt hdl
  · obtain ⟨t, rfl⟩ := val _ _ hP
    obtain ⟨h1, h2⟩ := argBest_gt (fun i => ns.getD i 0) (vs.length - 1)
    refine ⟨.int _, H, I.kept fun b o e => hk b o (fun hm => ?_) (Heap.get?_push_of_some _ e), ⟨t, rfl⟩, q _ ?_ fun y hy => ?_⟩
    · have : b = s.heap.objs.size := by simpa using hm
      rw [this] at e
      exact Nat.lt_irrefl _ (Heap.lt_size e)
    · exact PySem.getD_mem (by omega)
    · obtain ⟨j, hj, rfl⟩ := mem_getD hy
      exact h2 j (by omega)
/-- max(d.values()) -/
def fMaxV (d : D) (S : Sto) : Rs D := match d with
  | .ref n => match S[n]? with
    | some (.dk kvs) => fMax (kvs.map (·.2)) S
    | some (.fd kvs) => fMax (kvs.map (·.2)) S
    | _ => .bad
  | _ => .bad
theorem me_maxV {e : Expr} {m : En → Sto → Rs D} {p pos apos cpos : Pos} (hc : X.calm = true) (hg : Gl X "max") (hm : X.mg "max" = none) (he : ME X W e m) (hbase : attributeBase e "values" X.env (eval e X.env) = eval e X.env := by rfl) (hline : (apos.endLine == cpos.line) = true := by rfl)
    (hst : starEach [.Call (.Attribute e "values" apos) [] [] cpos] X.env = (false, eval (.Call (.Attribute e "values" apos) [] [] cpos) X.env) :: starEach [] X.env := by rfl) (hpl : (backTo pos (starEach [] X.env)).any (·.1) = false := by rfl) :
    ME X W (.Call (.Name "max" p) [.Call (.Attribute e "values" apos) [] [] cpos] [] pos) (m1 fMaxV m) :=
  PE.imp (pe_callB (cr_maxV hc) hg hm PyProof.Rows.boot_max (pa_cons (pe_view he hbase hline) pa_nil hst) (by decide) (by decide) hst hpl) fun σ H Q q => by
    obtain ⟨p, S, E, hs, he, q⟩ := q
    refine lE_step hs he (post_mono (fun d S1 p1 H1 x1 hs1 q1 v rv => ?_) (post_bind q))
    have main : ∀ (a : Addr) (kvs : List (Key × D)), v = .ref a → (∃ ws, Rd H1 a (.dK ws) ∧ RKs (gX X) p1 H1 kvs ws) → post (gX X) W p1 H1 (fMax (kvs.map (·.2)) S1) (kE (gX X) Q) → ∃ d kvs, v = .ref d ∧ Rd H1 d (.dK kvs) ∧ ∀ a, H1 a = none → rMaxV [.ref a] (upd H1 a (ViewO a d)) Q := by
      intro a kvs ev ⟨ws, hrd, rk⟩ q2
      refine ⟨a, ws, ev, hrd, fun b hb => ?_⟩
      unfold fMax at q2
      split at q2
      · rename_i n ns hn
        have e1 := toInts_eq hn
        have rk2 := rk.2
        rw [e1] at rk2
        have e2 := ints_read rk2
        have hne : ∀ o, H1 a = some o → a ≠ b := fun o ho => ne_of_none ho hb
        have hrd2 : Rd (upd H1 b (ViewO b a)) a (.dK ws) := by
          rcases hrd with h | ⟨o, h⟩
          · exact .inl (by rw [upd_ne (hne _ h)]; exact h)
          · exact .inr ⟨o, by rw [upd_ne (hne _ h)]; exact h⟩
        refine ⟨b, a, ws, n :: ns, rfl, upd_same, hrd2, e2, by simp, fun m hm hall => ?_⟩
        obtain ⟨h1, h2⟩ := foldl_max_spec ns n
        have em : m = ns.foldl max n := Int.le_antisymm (h1 m hm) (hall _ h2)
        rw [em]
        exact q2 p1 _ (Ext.new hb) (hs1.frame hb) _ rfl
      · exact q2.elim
    unfold fMaxV at q1
    split at q1
    · obtain ⟨a, ea, rfl⟩ := rv
      split at q1
      · rename_i kvs hd
        exact main a kvs rfl (dk_at hs1 ea (.inl hd)) q1
      · rename_i kvs hd
        exact main a kvs rfl (dk_at hs1 ea (.inr hd)) q1
      · exact q1.elim
    · exact q1.elim
end
end M

namespace M
open PySem L2
/-! ### a def that keeps its promise, under its name -/
section
variable {P : Program} {w : World} {K : PySem.W.Frag} {mg : Str → Option Value} {base : Heap}
structure DefAt (P : Program) (w : World) (K : PySem.W.Frag) (mg : Str → Option Value) (base : Heap) (k : Nat) (x : Str) (n : Nat) (mf : List D → Sto → Rs D) : Prop where
  ex : ∃ (f : Addr) (fd : FuncData) (ps : List Str), FnOk P w K mg base CX0 k f fd ps (spM ⟨K, P, w⟩ n mf) ∧ mg x = some (.ref f) ∧ PySem.W.keepIn K (.ref f) = true ∧ Binds K fd ps []
/-- the body's hypothesis: the def's code object is known -/
theorem ok_defC {x : Str} {st : Stmt} {fd : FuncData} {N ps : List Str} {k : Nat} {mb : En → Sto → Rs Fl} (F : FunD K x x (defArgs st) (defBody st) (defScope st) [] [] (He.ga K x) fd) (S : FnScope N ps (defScope st))
    (hb : ∀ (A : Around) (outer : List Env) (s : Shared) (H : Hp) (E : XK), Room k (A.deeper (PyProof.Rows.envOfC x (defScope st) s.heap.objs.size (He.ga K x) (.ref (He.codeOf K (x, none))))) → MSs (cxOf CX0 P w K mg base N x (defScope st) (He.ga K x) (.ref (He.codeOf K (x, none))) A outer s H E).nox W0 (defBody st) mb) :
    FnOk P w K mg base CX0 (k + 1) (He.ga K x) fd ps (spM ⟨K, P, w⟩ ps.length (mDef N.length mb)) := by
  obtain ⟨oc, od, dV, kV, doc, pm, an, cdv, ct, osl, rfl, lk, hcd, _, _⟩ := F.ex
  obtain ⟨c, rfl⟩ := He.codeIn_ref hcd
  have e : He.codeOf K (x, none) = c := He.codeOf_eq (p := (x, none)) lk rfl
  rw [e] at hb
  refine fn_of lk hcd S (fun vs H Q E h => h.1) (fun A outer s H vs Q E hr h => ?_)
  obtain ⟨hl, p, S', ds, hs, rd, q⟩ := h
  refine ⟨_, PSs.nox (hb A outer s H E hr), p, S', startE N.length ds, hs, RE.start N rd, post_mono (fun fl S1 p1 H1 x1 hs1 q1 => ?_) (post_bindB q)⟩
  cases fl with
  | nx E1 => exact fun σ' _ => gc_read (d := .non) (v := .non) hs x1 hs1 rfl q1
  | rt d => exact fun v rv => gc_read hs x1 hs1 rv q1
  | bk E1 => exact q1.elim
  | ct E1 => exact q1.elim
theorem defAt {x : Str} {st : Stmt} {N ps : List Str} {k : Nat} {mb : En → Sto → Rs Fl} (F : ∃ fd, FunD K x x (defArgs st) (defBody st) (defScope st) [] [] (He.ga K x) fd) (hm : mg x = some (.ref (He.ga K x))) (S : FnScope N ps (defScope st))
    (hbd : ∀ (kV doc pm : Value) (an : Option Addr) (cdv ct : Value) (us : List Value), us.length = ps.length → bindArgs (PySem.W.fnOf x x (defArgs st) (defBody st) (defScope st) .none kV doc pm an cdv ct) ⟨us, []⟩ = pure (ps.zip us))
    (hb : ∀ (A : Around) (outer : List Env) (s : Shared) (H : Hp) (E : XK), Room k (A.deeper (PyProof.Rows.envOfC x (defScope st) s.heap.objs.size (He.ga K x) (.ref (He.codeOf K (x, none))))) → MSs (cxOf CX0 P w K mg base N x (defScope st) (He.ga K x) (.ref (He.codeOf K (x, none))) A outer s H E).nox W0 (defBody st) mb) :
    DefAt P w K mg base (k + 1) x ps.length (mDef N.length mb) := by
  obtain ⟨fd, F⟩ := F
  exact ⟨_, fd, ps, ok_defC F S hb, hm, F.kp, F.bindsN hbd⟩
end
section
variable {X : Cx} {W : XW}
theorem me_cl {k j n : Nat} {mf : List D → Sto → Rs D} {x : Str} {p pos : Pos} {e : Expr} {es : List Expr} {t : En → Sto → Rs (List D)} (F : DefAt X.prog X.w X.K X.mg X.base k x n mf) (hr : Room j X.A) (hk : k ≤ j) (hg : Gl X x)
    (ha : MA X W (e :: es) t) (hdb : (x == ("__debug__" : Str)) = false := by decide) (he : starEach (e :: es) X.env = (false, eval e X.env) :: starEach es X.env := by rfl) (hpl : (backTo pos (starEach es X.env)).any (·.1) = false := by rfl) :
    ME X W (.Call (.Name x p) (e :: es) [] pos) (mN (mCl n mf) t) := by
  obtain ⟨f, fd, ps, F, hm, hkp, hb⟩ := F.ex
  exact me_call F (hr.mono hk) hg hm hkp hb ha hdb he hpl
theorem me_cl0 {k j : Nat} {mf : List D → Sto → Rs D} {x : Str} {p pos : Pos} (F : DefAt X.prog X.w X.K X.mg X.base k x 0 mf) (hr : Room j X.A) (hk : k ≤ j) (hg : Gl X x)
    (hdb : (x == ("__debug__" : Str)) = false := by decide) : ME X W (.Call (.Name x p) [] [] pos) (mN (mCl 0 mf) aNil) := by
  obtain ⟨f, fd, ps, F, hm, hkp, hb⟩ := F.ex
  exact me_call0 (n := 0) F (hr.mono hk) hg hm hkp hb hdb
end
/-! ### the law's end -/
def tbsOf (cs : List (Addr × Addr)) (qs : List Str) : Sto := (cs.zip qs).map fun z => .tb z.1.2 z.2
/-- the script of an open list is locked ahead of the law -/
theorem HOk.lockL {P : Program} {w : World} {H : Hp} {h : Heap} {a : Addr} {xs : List V} (ok : HOk P w H h) (e : H a = some (.lst xs)) : ∃ ob, HOk P w (upd H a (.frz ob (.lst xs))) h := by
  have x := ok a _ e
  have x' := x
  obtain ⟨_, its, n, _, eo⟩ := x
  have ne1 : ∀ b c, H b = some (.own c) → (upd H a (.frz { cls := .type "list", data := .seq its.toArray n } (.lst xs))) b = some (.own c) := fun b c q => by
    rw [upd_ne (fun z => by rw [z, e] at q; cases q)]; exact q
  have ne2 : ∀ b ys, H b = some (.tup ys) → (upd H a (.frz { cls := .type "list", data := .seq its.toArray n } (.lst xs))) b = some (.tup ys) := fun b c q => by
    rw [upd_ne (fun z => by rw [z, e] at q; cases q)]; exact q
  refine ⟨{ cls := .type "list", data := .seq its.toArray n }, fun b u q => ?_⟩
  by_cases hb : b = a
  · subst hb
    rw [upd_same] at q
    cases q
    exact ⟨eo, x'.stay (fun _ _ _ z => z) (fun c z => ne1 c _ z) ne2⟩
  · rw [upd_ne hb] at q
    exact (ok b u q).stay (fun _ _ _ z => z) (fun c z => ne1 c _ z) ne2
theorem lawAtM {l : PySem.W.OpenLaw} {w : World} {K : PySem.W.Frag} {k n : Nat} {x : Str} {mg : Str → Option Value} {fa : Addr} {h : Heap} {fd : FuncData} {mf : List D → Sto → Rs D} (cs : List (Addr × Addr)) (qs : List Str) (hq : cs.length = qs.length) (nd : (cs.map (·.2)).Nodup)
    (hT : ∀ p ∈ cs, h.get? p.2 = some { cls := .none, data := .fields #[] }) (nT : ∀ p ∈ cs, K.lookup p.2 = none) (C : ∀ p ∈ cs, PySem.W.CodeHd h p.1 p.2) (hb : ∀ (s : Shared) (u : Value), BindsTo s fd ⟨[u], []⟩ [(x, u)])
    (hF : ∀ base : Heap, K.In base → base.Ns mainGlobals mg → (∀ p ∈ cs, LamX.TabB base mg p.1 p.2) → FnOk l.prog w K mg base CX0 k fa fd [x] (spM ⟨K, l.prog, w⟩ 1 mf))
    (hl : ∀ ns : List Int, ns.length ≤ n → (∀ z ∈ ns, Builtin.Int.intBits z ≤ 1048576) → ∃ S1, mf [.rl ns] (tbsOf cs qs) = .ok (.bl true) S1) :
    LamX.LawAtS l w K CX0 k n x mg fa h := by
  refine ⟨fd, cs, fun vs H Q _ => ∃ (a : Addr) (ns : List Int), vs = [.ref a] ∧ ns.length ≤ n ∧ (∀ z ∈ ns, Builtin.Int.intBits z ≤ 1048576) ∧ (∀ p ∈ cs, H p.2 = some (.tbl #[])) ∧ SqL K H a (ns.map V.int) ∧ Q = fun v _ => v = .bl true, hT, nT, C, hb, fun H a ns h1 h2 h3 h4 => ⟨a, ns, rfl, h1, h2, h3, h4, rfl⟩, fun base b1 b2 b3 => ?_⟩
  have F := hF base b1 b2 b3
  refine ⟨fun vs H Q E ⟨a, ns, e, _⟩ => by rw [e]; rfl, fun A outer s H args us vs Q E hr e0 bd rv hsp => ?_⟩
  obtain ⟨a, ns, rfl, h1, h2, h3, h4, rfl⟩ := hsp
  obtain ⟨S1, hS⟩ := hl ns h1 h2
  have key : ∀ H : Hp, (∀ p ∈ cs, H p.2 = some (.tbl #[])) → RdL K H a (ns.map V.int) → spM ⟨K, l.prog, w⟩ 1 mf [.ref a] H (fun v _ => v = .bl true) E := fun H h3 h4 => by
    refine ⟨rfl, cs.map (·.2), tbsOf cs qs, [.rl ns], ⟨by simp [tbsOf, hq], nd, fun i b o e1 e2 => ?_⟩, ⟨.ref a, [], rfl, ⟨a, rfl, h4⟩, rfl⟩, ?_⟩
    · rw [List.getElem?_map] at e1
      unfold tbsOf at e2
      rw [List.getElem?_map] at e2
      cases hc : cs[i]? with
      | none => rw [hc] at e1; cases e1
      | some c =>
        rw [hc] at e1
        have e1' : c.2 = b := Option.some.inj e1
        cases hz : (cs.zip qs)[i]? with
        | none => rw [hz] at e2; cases e2
        | some z =>
          rw [hz] at e2
          have e2' : O.tb z.1.2 z.2 = o := Option.some.inj e2
          have ez : z.1 = c := by
            rw [List.getElem?_zip_eq_some] at hz
            rw [hc] at hz
            exact (Option.some.inj hz.1).symm
          subst e2'
          rw [← e1']
          refine ⟨_, h3 c (List.mem_of_getElem? hc), by rw [ez], #[], rfl, ?_, fun pos cv z => ?_⟩
          · trivial
          · cases z
    · rw [hS]
      exact fun p' H' _ _ v rv => rv
  rcases h4 with (h4 | ⟨o, h4⟩) | h4
  · obtain ⟨ob, ok'⟩ := HOk.lockL e0.hok h4
    have ne : ∀ b, H b = none → (upd H a (.frz ob (.lst (ns.map V.int)))) b = none := fun b q => by
      rw [upd_ne (fun z => by rw [z, h4] at q; cases q)]; exact q
    have e0' : Env0 l.prog w K mg base A outer s (upd H a (.frz ob (.lst (ns.map V.int)))) := ⟨e0.frames, e0.mod, fun b o q => ⟨(e0.bs b o q).1, ne b (e0.bs b o q).2⟩, e0.bsz, e0.funs, fun b q => ne b (e0.frf b q), ok', e0.bare⟩
    refine codeAny_mono (F.run A outer s _ args us _ _ E hr e0' bd rv (key _ (fun p hp => by
      rw [upd_ne (fun z => by have := h3 p hp; rw [z, h4] at this; cases this)]; exact h3 p hp) (.inl ⟨ob, upd_same⟩))) fun r s' z => ?_
    cases r with
    | error e => exact z
    | ok fl =>
      cases fl with
      | ret u =>
        obtain ⟨v, H', z1, z2, z3, z4, z5, z6⟩ := z
        refine ⟨v, H', z1, z2, ⟨fun b o e n => z3.keep b o e (ne b n), fun b o e n => z3.slot b o e (ne b n), fun b o e n => z3.free b o e (ne b n), z3.there, fun b ys e => z3.tups b ys ?_, fun b o u e => z3.frzs b o u ?_, fun b ps e => z3.tbls b ps ?_⟩, z4, z5, z6⟩
        all_goals (rw [upd_ne (fun z => by rw [z, h4] at e; cases e)]; exact e)
      | _ => exact z
  · exact F.run A outer s H args us _ _ E hr e0 bd rv (key H h3 (.inl ⟨o, h4⟩))
  · exact F.run A outer s H args us _ _ E hr e0 bd rv (key H h3 (.inr (.inr h4)))
section
variable {X : Cx} {W : XW}
/-- a constant of the module -/
theorem me_gl {x : Str} {d : D} {pos : Pos} (h : ∃ a, X.mg x = some (.ref a) ∧ ∀ p H, RD (gX X) p H d (.ref a)) (hg : Gl X x) (hd : (x == ("__debug__" : Str)) = false := by decide) : ME X W (.Name x pos) (mC d) := by
  obtain ⟨a, hm, hr⟩ := h
  exact me_glob (v := .ref a) hg hm rfl hr hd
end
end M

namespace M
open PySem L2
section
variable {X : Cx} {W : XW}
/-- a, b = x, y -/
def sPar (i j : Nat) (t : En → Sto → Rs (List D)) : En → Sto → Rs Fl := fun E S => (t E S).bind fun ds S1 => match ds with
  | [a, b] => .ok (.nx ((E.set i (some a)).set j (some b))) S1
  | _ => .bad
theorem ms_par {i j : Nat} {x y : Str} {a b : Expr} {t : En → Sto → Rs (List D)} {px py pt pos : Pos} {kt k2 pt2} (hc : X.calm = true) (hN : X.N.Nodup) (hi : X.N[i]? = some x) (hj : X.N[j]? = some y) (hij : i ≠ j)
    (hx : X.env.scope.names.lookup x = some .local) (hy : X.env.scope.names.lookup y = some .local) (ha : MA X W [a, b] t)
    (hw : swappedStores [.Tuple [.Name x px, .Name y py] kt pt] (.Tuple [a, b] k2 pt2) X.env = pure (some [x, y]))
    (hs : swapsWithSole [.Tuple [.Name x px, .Name y py] kt pt] (.Tuple [a, b] k2 pt2) pos.line X.env = pure false := by rfl) :
    MS X W (.Assign [.Tuple [.Name x px, .Name y py] kt pt] (.Tuple [a, b] k2 pt2) pos) (sPar i j t) :=
  PS.imp (ps_par hc hN hi hj hij hx hy ha hw hs) fun Z σ H q => by
    obtain ⟨p, S, E, hs, he, q⟩ := q
    refine ⟨p, S, E, hs, he, post_mono (fun ds S1 p1 H1 x1 hs1 q1 vs rvs => ?_) (post_bind q)⟩
    match ds, q1, rvs with
    | [d1, d2], q1, rvs =>
      obtain ⟨v1, us, rfl, r1, v2, us2, rfl, r2, r3⟩ := rvs
      cases us2 with
      | nil => exact ⟨v1, v2, rfl, post_ok q1 hs1 _ (((he.mono x1.pre x1.tup).set r1).set r2)⟩
      | cons _ _ => cases r3
    | [], q1, _ => exact q1.elim
    | [_], q1, _ => exact q1.elim
    | _ :: _ :: _ :: _, q1, _ => exact q1.elim
/-- a, b, c = x, y, z -/
def sPar3 (i j l : Nat) (t : En → Sto → Rs (List D)) : En → Sto → Rs Fl := fun E S => (t E S).bind fun ds S1 => match ds with
  | [a, b, c] => .ok (.nx (((E.set i (some a)).set j (some b)).set l (some c))) S1
  | _ => .bad
theorem ms_par3 {i j l : Nat} {x y z : Str} {a b c : Expr} {t : En → Sto → Rs (List D)} {px py pz pt pos : Pos} {kt k2 pt2} (hc : X.calm = true) (hN : X.N.Nodup) (hi : X.N[i]? = some x) (hj : X.N[j]? = some y) (hl : X.N[l]? = some z) (hij : i ≠ j) (hil : i ≠ l) (hjl : j ≠ l)
    (hx : X.env.scope.names.lookup x = some .local) (hy : X.env.scope.names.lookup y = some .local) (hz : X.env.scope.names.lookup z = some .local) (ha : MA X W [a, b, c] t)
    (hw : swappedStores [.Tuple [.Name x px, .Name y py, .Name z pz] kt pt] (.Tuple [a, b, c] k2 pt2) X.env = pure (some [x, y, z]))
    (hs : swapsWithSole [.Tuple [.Name x px, .Name y py, .Name z pz] kt pt] (.Tuple [a, b, c] k2 pt2) pos.line X.env = pure false := by rfl) :
    MS X W (.Assign [.Tuple [.Name x px, .Name y py, .Name z pz] kt pt] (.Tuple [a, b, c] k2 pt2) pos) (sPar3 i j l t) :=
  PS.imp (ps_par3 hc hN hi hj hl hij hil hjl hx hy hz ha hw hs) fun Z σ H q => by
    obtain ⟨p, S, E, hs, he, q⟩ := q
    refine ⟨p, S, E, hs, he, post_mono (fun ds S1 p1 H1 x1 hs1 q1 vs rvs => ?_) (post_bind q)⟩
    match ds, q1, rvs with
    | [d1, d2, d3], q1, rvs =>
      obtain ⟨v1, us, rfl, r1, v2, us2, rfl, r2, v3, us3, rfl, r3, r4⟩ := rvs
      cases us3 with
      | nil => exact ⟨v1, v2, v3, rfl, post_ok q1 hs1 _ ((((he.mono x1.pre x1.tup).set r1).set r2).set r3)⟩
      | cons _ _ => cases r4
    | [], q1, _ => exact q1.elim
    | [_], q1, _ => exact q1.elim
    | [_, _], q1, _ => exact q1.elim
    | _ :: _ :: _ :: _ :: _, q1, _ => exact q1.elim
end
end M

namespace M
open PySem L2
section
variable {X : Cx} {W : XW}
/-! ### a op b op c -/
def mChain (f g : D → D → Sto → Rs D) (ma mb mc : En → Sto → Rs D) : En → Sto → Rs D := fun E S => (ma E S).bind fun x S1 => (mb E S1).bind fun y S2 => (f x y S2).bind fun z S3 => match z with
  | .bl true => (mc E S3).bind fun w S4 => g y w S4
  | .bl false => .ok (.bl false) S3
  | _ => .bad
theorem chain_read {r r' : R2} {f g : D → D → Sto → Rs D} {ma mb mc : En → Sto → Rs D} (hp : Prim2 (gX X) W r f) (hp' : Prim2 (gX X) W r' g) {σ : St} {H : Hp} {Q : VK} (q : lE (gX X) W (mChain f g ma mb mc) σ H Q) : tChain r r' (lE (gX X) W ma) (lE (gX X) W mb) (lE (gX X) W mc) σ H Q := by
  obtain ⟨p, S, E, hs, he, q⟩ := q
  refine lE_step hs he (post_mono (fun x S1 p1 H1 x1 hs1 q1 v rv => ?_) (post_bind q))
  refine lE_step hs1 (he.mono x1.pre x1.tup) (post_mono (fun y S2 p2 H2 x2 hs2 q2 u ru => ?_) (post_bind q1))
  have he2 := (he.mono x1.pre x1.tup).mono x2.pre x2.tup
  refine hp p2 S2 H2 x y v u _ hs2 (rv.mono x2.pre x2.tup) ru (post_mono (fun z S3 p3 H3 x3 hs3 q3 w rw' => ?_) (post_bind q2))
  cases z with
  | bl b =>
    refine ⟨b, rw', ?_⟩
    cases b with
    | false => exact post_ok q3 hs3 _ rfl
    | true =>
      refine lE_step hs3 (he2.mono x3.pre x3.tup) (post_mono (fun d S4 p4 H4 x4 hs4 q4 t rt => ?_) (post_bind q3))
      exact hp' p4 S4 H4 y d u t Q hs4 ((ru.mono x3.pre x3.tup).mono x4.pre x4.tup) rt q4
  | _ => exact q3.elim
theorem me_chain {a b c : Expr} {pos : Pos} {op op' : CmpOp} {r r' : R2} {f g : D → D → Sto → Rs D} {ma mb mc : En → Sto → Rs D} (ho : OpR X (compareOp op) r) (hp : Prim2 (gX X) W r f) (ho' : OpR X (compareOp op') r') (hp' : Prim2 (gX X) W r' g) (ha : ME X W a ma) (hb : ME X W b mb) (hc : ME X W c mc)
    (hm : lastMarks [op, op'] [b, c] = false := by with_unfolding_all rfl) : ME X W (.Compare a [op, op'] [b, c] pos) (mChain f g ma mb mc) :=
  PE.imp (pe_chain ho ho' ha hb hc hm) fun _ _ _ q => chain_read hp hp' q
theorem mt_chain {a b c : Expr} {pos : Pos} {op op' : CmpOp} {r r' : R2} {f g : D → D → Sto → Rs D} {ma mb mc : En → Sto → Rs D} (ho : OpR X (compareOp op) r) (hp : Prim2 (gX X) W r f) (ho' : OpR X (compareOp op') r') (hp' : Prim2 (gX X) W r' g) (ha : ME X W a ma) (hb : ME X W b mb) (hc : ME X W c mc)
    (hm : lastMarks [op, op'] [b, c] = false := by with_unfolding_all rfl) : MT X W (.Compare a [op, op'] [b, c] pos) (tB (mChain f g ma mb mc)) :=
  PT.imp (pt_chain ho ho' ha hb hc hm) fun σ H Q q => by
    obtain ⟨p, S, E, hs, he, q⟩ := q
    refine chain_read hp hp' (Q := fun x H' => ∃ k, x = .bl k ∧ Q k H') (lE_step hs he (post_mono (fun d S1 p1 H1 x1 hs1 q1 v rv => ?_) (post_bind q)))
    cases d with
    | bl b => exact ⟨b, rv, post_ok q1 hs1⟩
    | _ => exact q1.elim
/-! ### slices -/
def cutD {α : Type} (xs : List α) (lo hi : Option Int) : List α := (xs.drop (HT.sIx xs.length 0 lo)).take (HT.sIx xs.length xs.length hi - HT.sIx xs.length 0 lo)
theorem RDs.drp {K : KX} {p : List Addr} {H : Hp} : ∀ {n : Nat} {ds : List D} {vs : List V}, RDs K p H ds vs → RDs K p H (ds.drop n) (vs.drop n)
  | 0, _, _, h => h
  | n + 1, [], vs, h => by cases (show vs = [] from h); exact h
  | n + 1, d :: ds, vs, h => by
    obtain ⟨v, us, rfl, _, h2⟩ := h
    exact RDs.drp (n := n) h2
theorem RDs.tke {K : KX} {p : List Addr} {H : Hp} : ∀ {n : Nat} {ds : List D} {vs : List V}, RDs K p H ds vs → RDs K p H (ds.take n) (vs.take n)
  | 0, _, _, _ => rfl
  | n + 1, [], vs, h => by cases (show vs = [] from h); rfl
  | n + 1, d :: ds, vs, h => by
    obtain ⟨v, us, rfl, h1, h2⟩ := h
    exact ⟨v, us.take n, rfl, h1, RDs.tke h2⟩
theorem RDs.cutd {K : KX} {p : List Addr} {H : Hp} {ds : List D} {vs : List V} {lo hi : Option Int} (h : RDs K p H ds vs) : RDs K p H (cutD ds lo hi) (cutV vs lo hi) := by
  unfold cutD cutV
  rw [h.length]
  exact RDs.tke (RDs.drp h)
def oNone : En → Sto → Rs (Option Int) := fun _ S => .ok none S
def oSome (m : En → Sto → Rs D) : En → Sto → Rs (Option Int) := fun E S => (m E S).bind fun d S1 => match d with
  | .int i => .ok (some i) S1
  | _ => .bad
def lO (K : KX) (W : XW) (m : En → Sto → Rs (Option Int)) : TO := fun σ H Q => ∃ p S E, RS K p S H ∧ RE K p H E σ ∧ post K W p H (m E S) fun o _ _ H' => Q o H'
abbrev MO (X : Cx) (W : XW) (e : Option Expr) (m : En → Sto → Rs (Option Int)) : Prop := PO X e (lO (gX X) W m)
theorem mo_none : MO X W none oNone := ⟨fun pins s σ H Q I h => by
  obtain ⟨p, S, E, hs, he, q⟩ := h
  exact po_none.run pins s σ H Q I (post_ok q hs)⟩
theorem mo_some {e : Expr} {m : En → Sto → Rs D} (hm : ME X W e m) : MO X W (some e) (oSome m) := ⟨fun pins s σ H Q I h => by
  obtain ⟨p, S, E, hs, he, q⟩ := h
  refine (po_some hm).run pins s σ H Q I (lE_step hs he (post_mono (fun d S1 p1 H1 x1 hs1 q1 v rv => ?_) (post_bind q)))
  cases d with
  | int i => exact ⟨i, rv, post_ok q1 hs1⟩
  | _ => exact q1.elim⟩
def fSl (x : D) (lo hi : Option Int) (S : Sto) : Rs D := match x with
  | .tup ds => .ok (.tup (cutD ds lo hi)) S
  | .ref n => match S[n]? with
    | some (.lst ds) => .ok (.ref S.length) (S ++ [.lst (cutD ds lo hi)])
    | _ => .bad
  | _ => .bad
def mSl (m : En → Sto → Rs D) (lo hi : En → Sto → Rs (Option Int)) : En → Sto → Rs D := fun E S => (m E S).bind fun x S1 => (lo E S1).bind fun l S2 => (hi E S2).bind fun u S3 => fSl x l u S3
theorem cut_whole {α : Type} {xs : List α} {lo hi : Option Int} (h : HT.sIx xs.length 0 lo = 0 ∧ HT.sIx xs.length xs.length hi = xs.length) : cutD xs lo hi = xs := by
  unfold cutD
  rw [h.1, h.2]
  simp
theorem me_slice {e : Expr} {lo hi : Option Expr} {m : En → Sto → Rs D} {ml mh : En → Sto → Rs (Option Int)} {p2 pos : Pos} (he : ME X W e m) (hl : MO X W lo ml) (hh : MO X W hi mh) : ME X W (.Subscript e (.Slice lo hi none p2) pos) (mSl m ml mh) :=
  PE.imp (pe_slice (sl_tupA.or sl_list) he hl hh) fun σ H Q q => by
    obtain ⟨p, S, E, hs, he, q⟩ := q
    refine lE_step hs he (post_mono (fun x S1 p1 H1 x1 hs1 q1 v rv => ?_) (post_bind q))
    have he1 := he.mono x1.pre x1.tup
    refine ⟨p1, S1, E, hs1, he1, post_mono (fun l S2 p2 H2 x2 hs2 q2 => ?_) (post_bind q1)⟩
    have he2 := he1.mono x2.pre x2.tup
    refine ⟨p2, S2, E, hs2, he2, post_mono (fun u S3 p3 H3 x3 hs3 q3 => ?_) (post_bind q2)⟩
    have rv3 := (rv.mono x2.pre x2.tup).mono x3.pre x3.tup
    unfold fSl at q3
    cases x with
    | tup ds =>
      obtain ⟨a, xs, rfl, hx, rs⟩ := rv3
      refine .inl ⟨a, xs, rfl, hx, fun hw => ?_, fun _ b hb => ?_⟩
      · have hw' : HT.sIx ds.length 0 l = 0 ∧ HT.sIx ds.length ds.length u = ds.length := by rw [rs.length]; exact hw
        simp only [cut_whole hw'] at q3
        exact post_ok q3 hs3 _ ⟨a, xs, rfl, hx, rs⟩
      · exact new_tup hs3 rs.cutd q3 hb
    | ref n =>
      simp only at q3
      split at q3
      · rename_i ds hd
        obtain ⟨a, ea, rfl⟩ := rv3
        obtain ⟨y, ey, vs, rfl, rs⟩ := hs3.get n a _ ea hd
        exact .inr ⟨a, vs, rfl, .inl (.of ey), fun b hb => new_obj hs3 (o := .lst (cutD ds l u)) ⟨_, rfl, rs.cutd⟩ q3 hb⟩
      · exact q3.elim
    | _ => exact q3.elim
end
end M

namespace M
open PySem L2
section
variable {X : Cx} {W : XW}
/-! ### zip(x, y) -/
def zipD (xs ys : List D) : List D := (xs.zip ys).map fun z => .tup [z.1, z.2]
theorem zipD_len (xs ys : List D) : (zipD xs ys).length = min xs.length ys.length := by simp [zipD]
theorem zipD_get {xs ys : List D} {i : Nat} {d : D} (h : (zipD xs ys)[i]? = some d) : ∃ x y, xs[i]? = some x ∧ ys[i]? = some y ∧ d = .tup [x, y] := by
  unfold zipD at h
  rw [List.getElem?_map] at h
  cases hq : (xs.zip ys)[i]? with
  | none => rw [hq] at h; cases h
  | some z =>
    rw [hq] at h
    obtain ⟨h1, h2⟩ := List.getElem?_zip_eq_some.mp hq
    exact ⟨z.1, z.2, h1, h2, (Option.some.inj h).symm⟩
theorem pair_z {q : List Addr} {S : Sto} {H' H2 : Hp} {T : Addr} {x y : V} {c d : D} (hT : H' T = none) (e : H2 = upd H' T (.tup [x, y])) (r : RS (gX X) q S H') (rc : RD (gX X) q H' c x) (rd : RD (gX X) q H' d y) :
    Ext (gX X) q H' q H2 ∧ RS (gX X) q S H2 ∧ RD (gX X) q H2 (.tup [c, d]) (.ref T) := by
  subst e
  have x1 : Ext (gX X) q H' q (upd H' T (.tup [x, y])) := Ext.new hT
  exact ⟨x1, r.frame hT, T, _, rfl, .of upd_same, _, _, rfl, rc.mono x1.pre x1.tup, _, _, rfl, rd.mono x1.pre x1.tup, rfl⟩
def aiZip (ds : List D) (S : Sto) : Rs AI := match ds with
  | [.tup xs, .tup ys] => .ok ⟨zipD xs ys, fun _ => True, none⟩ S
  | [.ref n, .ref m] => match S[n]?, S[m]? with
    | some (.lst xs), some (.lst ys) => .ok ⟨zipD xs ys, fun S => S[n]? = some (.lst xs) ∧ S[m]? = some (.lst ys), none⟩ S
    | _, _ => .bad
  | _ => .bad
def iZp (t : En → Sto → Rs (List D)) : En → Sto → Rs AI := fun E S => (t E S).bind aiZip
theorem mi_zip {e e2 : Expr} {t : En → Sto → Rs (List D)} {p pos tpos : Pos} {elts : List Expr} {kk : Nat} (hg : Gl X "zip") (hm : X.mg "zip" = none) (ha : MA X W [e, e2] t)
    (hs : starEach [e, e2] X.env = (false, eval e X.env) :: starEach [e2] X.env := by rfl) (hpl : (backTo pos (starEach [e2] X.env)).any (·.1) = false := by rfl) :
    MI X W (.Tuple elts kk tpos) (.Call (.Name "zip" p) [e, e2] [] pos) (iZp t) :=
  PI.imp (RZ.pi_zipA hg hm ha hs hpl) fun σ H R q => by
    obtain ⟨p, S, E, hs, he, q⟩ := q
    refine ⟨p, S, E, hs, he, post_mono (fun ds S1 p1 H1 x1 hs1 q1 vs rvs => ?_) (post_bind q)⟩
    unfold aiZip at q1
    split at q1
    · rename_i xs ys
      obtain ⟨v, us, rfl, rv, v2, us2, rfl, rv2, rn⟩ := rvs
      cases (show us2 = [] from rn)
      obtain ⟨a, us, rfl, ea, rs⟩ := rv
      obtain ⟨b, ws, rfl, eb, rt⟩ := rv2
      refine ⟨a, b, us, ws, rfl, .inr ⟨ea, eb, post_ok q1 hs1 _ _ .none ⟨fun i q S H' e' r g hi => ?_, fun q S H' e' r g => ?_, fun i q S H' y H2 dd e' r g hi yy => ?_⟩⟩⟩
      · have hi' : i < us.length ∧ i < ws.length := by
          have hi2 : i < (zipD xs ys).length := hi
          rw [zipD_len, rs.length, rt.length] at hi2
          omega
        exact ⟨us, ws, us[i], ws[i], e'.tup.tup _ _ ea, e'.tup.tup _ _ eb, by simp [hi'.1], by simp [hi'.2]⟩
      · refine ⟨us, ws, e'.tup.tup _ _ ea, e'.tup.tup _ _ eb, ?_⟩
        show us.length ≤ (zipD xs ys).length ∨ ws.length ≤ (zipD xs ys).length
        rw [zipD_len, rs.length, rt.length]
        omega
      · obtain ⟨x, z, hx, hz, rfl⟩ := zipD_get hi
        obtain ⟨T, u1, u2, rfl, hT, e2, h1, h2⟩ := yy
        obtain ⟨w1, hw1, r1⟩ := (rs.mono e'.pre e'.tup).get hx
        obtain ⟨w2, hw2, r2⟩ := (rt.mono e'.pre e'.tup).get hz
        have k1 := h1 us (e'.tup.tup _ _ ea)
        have k2 := h2 ws (e'.tup.tup _ _ eb)
        rw [hw1] at k1; cases k1
        rw [hw2] at k2; cases k2
        exact pair_z hT e2 r r1 r2
    · rename_i n m
      obtain ⟨v, us, rfl, rv, v2, us2, rfl, rv2, rn⟩ := rvs
      cases (show us2 = [] from rn)
      obtain ⟨a, ea, rfl⟩ := rv
      obtain ⟨b, eb, rfl⟩ := rv2
      split at q1
      · rename_i xs ys hd hd2
        obtain ⟨us, ex, rs⟩ := lst_at hs1 ea hd
        obtain ⟨ws, ey, rt⟩ := lst_at hs1 eb hd2
        have lst : ∀ q (S : Sto) H', Ext (gX X) p1 H1 q H' → RS (gX X) q S H' → (S[n]? = some (.lst xs) ∧ S[m]? = some (.lst ys)) → (∃ us, H' a = some (.lst us) ∧ RDs (gX X) q H' xs us) ∧ ∃ ws, H' b = some (.lst ws) ∧ RDs (gX X) q H' ys ws := fun q S H' e r g => ⟨lst_at r (e.pre.get ea) g.1, lst_at r (e.pre.get eb) g.2⟩
        refine ⟨a, b, us, ws, rfl, .inl ⟨.of ex, .of ey, post_ok q1 hs1 _ _ .none ⟨fun i q S H' e' r g hi => ?_, fun q S H' e' r g => ?_, fun i q S H' y H2 dd e' r g hi yy => ?_⟩⟩⟩
        · obtain ⟨⟨us, ew, rs⟩, ws, ew2, rt⟩ := lst q S H' e' r g
          have hi' : i < us.length ∧ i < ws.length := by
            have hi2 : i < (zipD xs ys).length := hi
            rw [zipD_len, rs.length, rt.length] at hi2
            omega
          exact ⟨us, ws, us[i], ws[i], .of ew, .of ew2, by simp [hi'.1], by simp [hi'.2]⟩
        · obtain ⟨⟨us, ew, rs⟩, ws, ew2, rt⟩ := lst q S H' e' r g
          refine ⟨us, ws, .of ew, .of ew2, ?_⟩
          show us.length ≤ (zipD xs ys).length ∨ ws.length ≤ (zipD xs ys).length
          rw [zipD_len, rs.length, rt.length]
          omega
        · obtain ⟨⟨us, ew, rs⟩, ws, ew2, rt⟩ := lst q S H' e' r g
          obtain ⟨x, z, hx, hz, rfl⟩ := zipD_get hi
          obtain ⟨T, u1, u2, rfl, hT, e2, h1, h2⟩ := yy
          obtain ⟨w1, hw1, r1⟩ := rs.get hx
          obtain ⟨w2, hw2, r2⟩ := rt.get hz
          have k1 := h1 us (.of ew)
          have k2 := h2 ws (.of ew2)
          rw [hw1] at k1; cases k1
          rw [hw2] at k2; cases k2
          exact pair_z hT e2 r r1 r2
      · exact q1.elim
    · exact q1.elim
end
end M

namespace M
open PySem PySem.Spec PyProof.Rows L2
/-! ### set(xs) of a list of ints: a set whose order is led -/
section
variable {P : Program} {w : World} {A : Around} {E : Value → Shared → Prop} {s : Shared}
/-- the set as it is made -/
abbrev soNew (w : World) : Obj := { cls := .type "set", dict := none, data := .set #[] 0 (.fresh 0 0 (!w.params.followText "set-order")) }
/-- what the filled set is -/
def SetFilled (w : World) (s : Shared) (ns : List Int) (s2 : Shared) : Prop := ∃ h' tk c, s2 = { s with heap := h', toks := tk } ∧ SetR w h' s.heap.objs.size (fun j => decide (j ∈ ns)) c ∧ c ≤ ns.length ∧ ∀ b o, s.heap.get? b = some o → h'.get? b = some o
theorem fill_list {l : Addr} {items : Array Value} (ns : List Int) (hh : A.handled = none) (hl : s.heap.IsList l items) (hit : IntsAre items.toList ns) (hb : ns.length + 1 < scanBound) :
    codeAny (model P w) A (.call (.builtin "set.__init__") ⟨[.ref s.heap.objs.size, .ref l], []⟩) (wants (fun r s2 => r = .none ∧ SetFilled w s ns s2) E) { s with heap := s.heap.push (soNew w) } := by
  have hn : items.size = ns.length := by rw [← Array.length_toList]; exact IntsAre.length hit
  have hS : (s.heap.push (soNew w)).get? s.heap.objs.size = some (soNew w) := Heap.get?_push_size _ rfl
  have hT : Shared.TypeIs { s with heap := s.heap.push (soNew w) } (.ref s.heap.objs.size) "set" := ⟨_, hS, rfl⟩
  refine codeAny_call_builtin F.called_set.init.plain F.entry_set_init (check_set_init_1 hT ?_)
  obtain ⟨⟨oc, od, dt, sl⟩, ho, c1, nl, d1⟩ := hl
  simp only at c1 d1
  subst c1 d1
  have ho' : (s.heap.push (soNew w)).get? l = some ⟨.type "list", od, .seq items nl, sl⟩ := Heap.get?_push_of_some _ ho
  have k1 := F.sub_list_set
  have k2 := F.sub_list_frozenset
  have k3 : (Value.type "list" == Value.type "dict") = false := by decide
  have hl1 : (s.heap.push (soNew w)).IsList l items := ⟨_, ho', rfl, nl, rfl⟩
  unfold Builtin.«set.__init__» noKeywords Builtin.Frozenset.updateFrom
  generalize hPI : pyIter = PI
  wp_walk
  subst hPI
  refine wpAny_pyIter_list hl1 (wpAny_bind (wpAny_runValue ?_))
  have lt : l < s.heap.objs.size := Heap.lt_size ho
  have sz : (s.heap.push (soNew w)).objs.size = s.heap.objs.size + 1 := Heap.size_push ..
  have vals : ∀ (i : Nat) (v : Value), items[i]? = some v → ∃ k t, ns[i]? = some k ∧ v = .int k t := fun i v hv => by
    have hi : i < ns.length := by rw [← hn]; exact (Array.getElem?_eq_some_iff.mp hv).1
    obtain ⟨t, e⟩ := IntsAre.int_at hit i v (by rw [Array.getElem?_toList]; exact hv)
    exact ⟨ns[i], t, by simp [hi], by rw [e, List.getD_eq_getElem?_getD, List.getElem?_eq_getElem hi]; rfl⟩
  have W := (Walks.list (prog := P) (w := w) (A := A.in1.in1) (by simp [hh]) (s.heap.push (soNew w)).objs.size l (by rw [sz]; exact Nat.ne_of_lt (Nat.lt_succ_of_lt lt)) items).toS
  have off : ∀ b : Addr, b < s.heap.objs.size → b ≠ (s.heap.push (soNew w)).objs.size := fun b hb => by rw [sz]; exact Nat.ne_of_lt (Nat.lt_succ_of_lt hb)
  have apart : s.heap.objs.size ∉ [(s.heap.push (soNew w)).objs.size, l] := by
    rw [sz, List.mem_cons, List.mem_singleton]
    exact fun z => z.elim (Nat.ne_of_lt (Nat.lt_succ_self _)) (Nat.ne_of_gt lt)
  refine set_update_ints W s.heap.objs.size apart ns hn hb vals items.size 0 _ (by omega) (Nat.zero_le _) ?zero ?first ?last
  case zero => exact ⟨⟨_, Heap.get?_push_size _ rfl, rfl, rfl⟩, hl1.push _⟩
  case first =>
    refine ⟨0, Nat.le_refl 0, setR_new_at ?_⟩
    exact Heap.get?_push_of_some _ hS
  case last =>
  intro s' c hm hc hS'
  obtain ⟨h', g', d', tk', os'⟩ := s'
  cases (show g' = s.gens from hm.gens)
  cases (show d' = s.drawn from hm.drawn)
  cases (show os' = s.os from hm.os)
  show wpAny _ _ _ _ _ _
  refine wpAny_pure ?_
  show wpAny _ _ (ret Value.none) _ _ _
  refine wpAny_pure ⟨rfl, h', tk', c, rfl, hS', by omega, fun b o e => ?_⟩
  have lb : b < s.heap.objs.size := Heap.lt_size e
  exact hm.heap b o (by rw [List.mem_cons, List.mem_singleton]; exact fun z => z.elim (Nat.ne_of_lt lb) (off b lb)) (Heap.get?_push_of_some _ (Heap.get?_push_of_some _ e))
theorem set_of_list {l : Addr} {items : Array Value} (ns : List Int) {Q : Value → Shared → Prop} (hh : A.handled = none) (hl : s.heap.IsList l items) (hit : IntsAre items.toList ns) (hb : ns.length + 1 < scanBound) (h : ∀ s2, SetFilled w s ns s2 → Q (.ref s.heap.objs.size) s2) :
    wpAny (model P w) A (call (.type "set") [.ref l]) Q E s := by
  obtain ⟨c0, tl0, m0⟩ := F.called_set.mro
  have m1 := F.called_set.made
  have m2 := F.called_set.sub
  have m3 := F.called_set.notType
  have m4 := F.called_set.canCreate
  have m5 := F.typeCall_set_1 (.ref l)
  refine wpAny_call (codeAny_of_tree (show wpAny _ _ (callAny (.type "set") _) _ _ _ from wpAny_pure ⟨Code.quiet_builtin _ (by decide +kernel), codeAny_builtin F.entry_type_call ?_⟩))
  rw [Around.under_plain (weight_type_call_type "set" [.ref l] []) rfl]
  repeat (any_goals (first | assumption | wp_step))
  refine codeAny_mono (code_set_led1 (.ref l) (E := E) (Q₁ := fun obj s₁ => obj = .ref s.heap.objs.size ∧ s₁ = { s with heap := s.heap.push (soNew w) }) ⟨rfl, rfl⟩) fun r s₁ hr => ?_
  rcases r with e | fl
  · exact hr
  · cases fl with
    | ret obj =>
      obtain ⟨rfl, rfl⟩ := hr
      have hT : Shared.TypeIs { s with heap := s.heap.push (soNew w) } (.ref s.heap.objs.size) "set" := ⟨_, Heap.get?_push_size _ rfl, rfl⟩
      have n1 := F.called_set.init.lookup
      have n2 := F.called_set.init.bind (.ref s.heap.objs.size)
      repeat (any_goals (first | assumption | wp_step))
      refine codeAny_mono (fill_list (E := E) ns (by simp [hh]) hl hit hb) fun r₂ s₂ hr₂ => ?_
      rcases r₂ with e | fl₂
      · exact hr₂
      · cases fl₂ with
        | ret v =>
          obtain ⟨rfl, hf⟩ := hr₂
          have hf' := hf
          obtain ⟨h', tk, c, rfl, _⟩ := hf'
          repeat (any_goals (first | assumption | wp_step))
          exact h _ hf
        | _ => exact hr₂.elim
    | _ => exact hr.elim
end
end M

namespace M
open PySem PySem.Spec PyProof.Rows L2
section
variable {X : Cx} {W : XW}
def rSetL1 (K : PySem.W.Frag) (w : World) : List V → Hp → VK → Prop := fun xs H Q => ∃ (l : Addr) (ns : List Int), xs = [.ref l] ∧ SqL K H l (ns.map V.int) ∧ ns.length + 1 < scanBound ∧ ∀ (p : Addr) (c : Nat), H p = none → c ≤ ns.length → Q (.ref p) (upd H p (SetO w p (fun j => decide (j ∈ ns)) c))
theorem cr_setL (hc : X.calm = true) : CallR X (.type "set") (rSetL1 X.K X.w) := by
  intro pins s σ H xs us Q I r h
  obtain ⟨l, ns, rfl, hq, hb, q⟩ := h
  rw [Vals.ref1 r]
  obtain ⟨its, rv, p', _⟩ := I.list hq
  refine set_of_list ns (I.ok.hd hc) p'.isList (by simpa using intsAre_of rv) hb fun s2 hf => ?_
  obtain ⟨h', tk, c, rfl, hS, hcl, hk⟩ := hf
  exact ⟨.ref _, upd H s.heap.objs.size (SetO X.w s.heap.objs.size (fun j => decide (j ∈ ns)) c), I.laid (t' := tk) hk (Nat.le_refl _) (setO_new hS), rfl, q _ c (I.hok.fresh (Nat.le_refl _)) hcl⟩
/-! ### ints in order, each once -/
def insU (x : Int) : List Int → List Int
  | [] => [x]
  | y :: r => if x < y then x :: y :: r else if x = y then y :: r else y :: insU x r
def sortU (ns : List Int) : List Int := ns.foldr insU []
theorem insU_mem {x z : Int} : ∀ {l : List Int}, z ∈ insU x l ↔ z = x ∨ z ∈ l
  | [] => by simp [insU]
  | y :: r => by
    unfold insU
    split
    · simp
    · split
      · rename_i _ h; subst h; simp
      · rw [List.mem_cons, insU_mem, List.mem_cons]
        constructor
        · rintro (h | h | h) <;> simp [h]
        · rintro (h | h | h) <;> simp [h]
theorem insU_lt {x : Int} : ∀ {l : List Int}, l.Pairwise (· < ·) → (insU x l).Pairwise (· < ·)
  | [], _ => by simp [insU]
  | y :: r, h => by
    rw [List.pairwise_cons] at h
    unfold insU
    split
    · rename_i hx
      rw [List.pairwise_cons]
      refine ⟨fun z hz => ?_, List.pairwise_cons.mpr h⟩
      rcases List.mem_cons.mp hz with rfl | hz
      · exact hx
      · exact Int.lt_trans hx (h.1 z hz)
    · split
      · exact List.pairwise_cons.mpr h
      · rw [List.pairwise_cons]
        refine ⟨fun z hz => ?_, insU_lt h.2⟩
        rcases insU_mem.mp hz with rfl | hz
        · omega
        · exact h.1 z hz
theorem sortU_mem {z : Int} : ∀ {ns : List Int}, z ∈ sortU ns ↔ z ∈ ns
  | [] => Iff.rfl
  | x :: ns => by
    show z ∈ insU x (sortU ns) ↔ _
    rw [insU_mem, sortU_mem, List.mem_cons]
theorem sortU_lt : ∀ {ns : List Int}, (sortU ns).Pairwise (· < ·)
  | [] => List.Pairwise.nil
  | _ :: _ => insU_lt sortU_lt
theorem lt_unique : ∀ {a b : List Int}, a.Pairwise (· < ·) → b.Pairwise (· < ·) → (∀ z, z ∈ a ↔ z ∈ b) → a = b
  | [], [], _, _, _ => rfl
  | [], y :: b, _, _, h => by have := (h y).mpr (List.mem_cons_self ..); cases this
  | x :: a, [], _, _, h => by have := (h x).mp (List.mem_cons_self ..); cases this
  | x :: a, y :: b, ha, hb, h => by
    rw [List.pairwise_cons] at ha hb
    have hxy : x = y := by
      rcases List.mem_cons.mp ((h x).mp (List.mem_cons_self ..)) with e | e
      · exact e
      · rcases List.mem_cons.mp ((h y).mpr (List.mem_cons_self ..)) with e2 | e2
        · exact e2.symm
        · have h1 := hb.1 x e
          have h2 := ha.1 y e2
          omega
    subst hxy
    congr 1
    refine lt_unique ha.2 hb.2 fun z => ?_
    constructor
    · intro hz
      rcases List.mem_cons.mp ((h z).mp (List.mem_cons_of_mem _ hz)) with e | e
      · have := ha.1 z hz; omega
      · exact e
    · intro hz
      rcases List.mem_cons.mp ((h z).mpr (List.mem_cons_of_mem _ hz)) with e | e
      · have := hb.1 z hz; omega
      · exact e
end
end M

namespace M
open PySem PySem.Spec PyProof.Rows L2
section
variable {X : Cx} {W : XW}
/-- sorted(set(e)) of a fresh list of ints -/
def mSortSet (m : En → Sto → Rs (List D)) : En → Sto → Rs D := fun E S => (m E S).bind fun ds S1 => match toInts ds with
  | some ns => if ns.length < 64 then .ok (.ref S1.length) (S1 ++ [.lst ((sortU ns).map .int)]) else .bad
  | none => .bad
theorem me_sortSet {e : Expr} {m : En → Sto → Rs (List D)} {p p2 pos pos2 : Pos} (hc : X.calm = true) (hg : Gl X "sorted") (hm : X.mg "sorted" = none) (hg2 : Gl X "set") (hm2 : X.mg "set" = none) (ha : TL X W e m)
    (he : starEach [e] X.env = (false, eval e X.env) :: starEach [] X.env := by rfl) (hpl : (backTo pos2 (starEach [] X.env)).any (·.1) = false := by rfl)
    (he1 : starEach [.Call (.Name "set" p2) [e] [] pos2] X.env = (false, eval (.Call (.Name "set" p2) [e] [] pos2) X.env) :: starEach [] X.env := by rfl) (hpl1 : (backTo pos (starEach [] X.env)).any (·.1) = false := by rfl) :
    ME X W (.Call (.Name "sorted" p) [.Call (.Name "set" p2) [e] [] pos2] [] pos) (mSortSet m) :=
  PE.imp (pe_callB (cr_sortedSet hc) hg hm (by decide +kernel) (pa_cons (pe_callTy (cr_setL hc) hg2 hm2 (by decide +kernel) (pa_cons ha pa_nil he) (by decide) (by decide) he hpl) pa_nil he1) (by decide) (by decide) he1 hpl1) fun σ H Q q => by
    obtain ⟨p, S, E, hs, he, q⟩ := q
    refine ⟨p, S, E, hs, he, post_mono (fun ds S1 p1 H1 x1 hs1 q1 a vs ha hz rv => ?_) (post_bind q)⟩
    split at q1
    · rename_i ns hn
      split at q1
      · rename_i hl
        rw [toInts_eq hn] at rv
        have ev := ints_read rv
        subst ev
        have hb : ns.length + 1 < scanBound := by unfold scanBound; omega
        refine ⟨a, ns, rfl, .inl (.of upd_same), hb, fun b c hb0 hcl => ?_⟩
        have hab : b ≠ a := fun z => by rw [z, upd_same] at hb0; cases hb0
        have hb1 : H1 b = none := by rw [upd_ne hab] at hb0; exact hb0
        refine ⟨b, _, c, rfl, upd_same, by omega, fun zs l h1 h2 h3 hl0 => ?_⟩
        have ez : zs = sortU ns := lt_unique h1 sortU_lt fun z => by rw [h2, sortU_mem]; simp
        subst ez
        have hx1 : Ext (gX X) p1 H1 p1 (upd H1 a (.lst (ns.map V.int))) := Ext.new ha
        have hx2 : Ext (gX X) p1 (upd H1 a (.lst (ns.map V.int))) p1 (upd (upd H1 a (.lst (ns.map V.int))) b (SetO X.w b (fun j => decide (j ∈ ns)) c)) := Ext.new hb0
        exact new_obj ((hs1.frame ha).frame hb0) (o := .lst ((sortU ns).map .int)) ⟨_, rfl, rds_ints _⟩ (post_base (hx1.trans hx2) q1) hl0
      · exact q1.elim
    · exact q1.elim
end
end M

namespace M
open PySem L2
/-! ### dicts by tuples -/
mutual
def toNK : D → Option NestedKey
  | .non => some .none
  | .int i => some (.num i)
  | .str x => some (.text x)
  | .tup ds => (toNKs ds).map .tup
  | .bl _ => none
  | .ref _ => none
  | .raw _ => none
  | .rl _ => none
def toNKs : List D → Option (List NestedKey)
  | [] => some []
  | d :: ds => (toNK d).bind fun k => (toNKs ds).map (k :: ·)
end
mutual
theorem toNK_eq : ∀ {d : D} {k : NestedKey}, toNK d = some k → nkD k = d
  | .non, k, h => by cases h; rfl
  | .int i, k, h => by cases h; rfl
  | .str x, k, h => by cases h; rfl
  | .tup ds, k, h => by
    obtain ⟨ks, h1, rfl⟩ := Option.map_eq_some_iff.mp (show (toNKs ds).map .tup = some k from h)
    show D.tup (nkDs ks) = _
    rw [toNKs_eq h1]
  | .bl _, k, h => by cases h
  | .ref _, k, h => by cases h
  | .raw _, k, h => by cases h
  | .rl _, k, h => by cases h
theorem toNKs_eq : ∀ {ds : List D} {ks : List NestedKey}, toNKs ds = some ks → nkDs ks = ds
  | [], ks, h => by cases h; rfl
  | d :: ds, ks, h => by
    obtain ⟨k, h1, h2⟩ := Option.bind_eq_some_iff.mp (show (toNK d).bind (fun k => (toNKs ds).map (k :: ·)) = some ks from h)
    obtain ⟨r, h3, rfl⟩ := Option.map_eq_some_iff.mp h2
    show nkD k :: nkDs r = _
    rw [toNK_eq h1, toNKs_eq h3]
end
section
variable {X : Cx} {W : XW} {pins : List (Addr × Obj)} {σ : St} {H : Hp} {s : Shared}
mutual
theorem key_nested (I : Inv X pins σ H s) {p : List Addr} : ∀ {k : NestedKey} {v : V} {u : Value}, RD (gX X) p H (nkD k) v → RelV v u → NestedIs s.heap k u
  | .none, v, u, h, r => by
    cases (show v = V.non from h)
    cases (show u = Value.none from r)
    exact .none
  | .num i, v, u, h, r => by
    cases (show v = V.int i from h)
    obtain ⟨t, rfl⟩ := r
    exact .int i t
  | .text x, v, u, h, r => by
    cases (show v = V.str x from h)
    obtain ⟨t, rfl⟩ := r
    exact .text x t
  | .tup ks, v, u, h, r => by
    obtain ⟨a, vs, rfl, hq, rs⟩ := h
    cases (show u = Value.ref a from r)
    obtain ⟨its, rv, ⟨o, e, c, n, dd⟩, _⟩ := I.tuple hq
    exact .tup e c dd (by simpa using keys_nested I rs rv)
theorem keys_nested (I : Inv X pins σ H s) {p : List Addr} : ∀ {ks : List NestedKey} {vs : List V} {us : List Value}, RDs (gX X) p H (nkDs ks) vs → Vals vs us → NestedAll s.heap ks us
  | [], vs, us, h, r => by
    cases (show vs = [] from h)
    cases r
    exact .nil
  | k :: ks, vs, us, h, r => by
    obtain ⟨v, rest, rfl, h1, h2⟩ := h
    cases r with
    | cons r1 r2 => exact .cons (key_nested I h1 r1) (keys_nested I h2 r2)
end
/-- at a stands a dict by tuples (an empty one is one, too) -/
def NAt (X : Cx) (H : Hp) (a : Addr) (xs : List (NestedKey × Addr × V)) : Prop :=
  (Rd H a (DictN X.prog X.w a xs) ∧ ∀ x ∈ xs, ∃ p, RD (gX X) p H (nkD x.1) (.ref x.2.1)) ∨ (xs = [] ∧ Rd H a (.dK []))
abbrev PairN (x : NestedKey × Addr × V) (y : NestedKey × Addr × Value) : Prop := x.1 = y.1 ∧ x.2.1 = y.2.1 ∧ RelV x.2.2 y.2.2
theorem pair_mem {α β : Type} {G : α → β → Prop} {l : List α} {m : List β} (h : Paired G l m) : ∀ y ∈ m, ∃ x ∈ l, G x y := by
  induction h with
  | nil => intro y hy; cases hy
  | cons r t ih =>
    intro y hy
    rcases List.mem_cons.mp hy with rfl | hy
    · exact ⟨_, List.mem_cons_self .., r⟩
    · obtain ⟨x, hx, g⟩ := ih y hy
      exact ⟨x, List.mem_cons_of_mem _ hx, g⟩
theorem pair_keys {xs : List (NestedKey × Addr × V)} {ys : List (NestedKey × Addr × Value)} (h : Paired PairN xs ys) : ys.map (·.1) = xs.map (·.1) := by
  induction h with
  | nil => rfl
  | cons r t ih => simp [r.1, ih]
theorem NAt.full {a : Addr} {xs : List (NestedKey × Addr × V)} (I : Inv X pins σ H s) (h : NAt X H a xs) : (a == sysModules) = false ∧ xs.length ≤ sizeLine ∧ (∀ x ∈ xs, x.1.depth ≤ 8) ∧ (xs.map (·.1)).Nodup ∧
    ∃ ys, Paired PairN xs ys ∧ s.heap.DictOfH (nestedKind X.prog X.w) a ys := by
  rcases h with ⟨h, hk⟩ | ⟨rfl, h⟩
  · have x : ObjOk X.prog X.w H s.heap a (DictN X.prog X.w a xs) := rd_of I.hok h
    obtain ⟨⟨l, sm, dp, nd, ys, o, es, ep, pr, g, ex, dt, el⟩, _⟩ := x
    have nd' : (ys.map (·.1)).Nodup := by rw [pair_keys pr]; exact nd
    refine ⟨sm, l, dp, nd, ys, pr, o, es, ep, g, ex, dt, el, fun y hy => ?_, nd'⟩
    obtain ⟨x, hx, e1, e2, _⟩ := pair_mem pr y hy
    obtain ⟨p, r⟩ := hk x hx
    rw [← e1, ← e2]
    exact ⟨key_nested I r rfl, dp x hx⟩
  · obtain ⟨z, sm, vs, kv, dd⟩ := dk_rd I.hok h
    cases kv
    obtain ⟨o, es, ep, g, ex, dt, q⟩ := dd
    have e0 : es.toList = [] := by
      have := q.2.1.length
      exact List.length_eq_zero_iff.mp this
    exact ⟨sm, Nat.zero_le _, (fun _ z => by cases z), List.nodup_nil, [], .nil, o, es, ep, g, ex, dt, e0, (fun _ z => by cases z), List.nodup_nil⟩
def lookX (xs : List (NestedKey × Addr × V)) (k : NestedKey) : Option V := (xs.find? fun x => decide (x.1 = k)).map (·.2.2)
theorem look_pair {xs : List (NestedKey × Addr × V)} {ys : List (NestedKey × Addr × Value)} {k : NestedKey} (h : Paired PairN xs ys) : (∀ v, lookX xs k = some v → ∃ q, atKey ys k = some q ∧ RelV v q.2) ∧ (lookX xs k = none → atKey ys k = none) := by
  induction h with
  | nil => exact ⟨(fun v z => by cases z), fun _ => rfl⟩
  | @cons x y l m r t ih =>
    by_cases hk : x.1 = k
    · have e1 : lookX (x :: l) k = some x.2.2 := by unfold lookX; rw [List.find?_cons]; simp [hk]
      have e2 : atKey (y :: m) k = some y.2 := by unfold atKey; rw [List.find?_cons]; simp [← r.1, hk]
      rw [e1, e2]
      exact ⟨fun v z => by cases z; exact ⟨_, rfl, r.2.2⟩, fun z => by cases z⟩
    · have e1 : lookX (x :: l) k = lookX l k := by unfold lookX; rw [List.find?_cons]; simp [hk]
      have e2 : atKey (y :: m) k = atKey m k := by unfold atKey; rw [List.find?_cons]; simp [← r.1, hk]
      rw [e1, e2]
      exact ih
/-- a key of a dict by tuples -/
def KeyN (X : Cx) (H : Hp) (k : NestedKey) (b : Addr) : Prop := k.depth ≤ 8 ∧ ∃ p, RD (gX X) p H (nkD k) (.ref b)
theorem KeyN.is {k : NestedKey} {b : Addr} (I : Inv X pins σ H s) (h : KeyN X H k b) : (nestedKind X.prog X.w).is s.heap k b := by
  obtain ⟨d, p, r⟩ := h
  exact ⟨key_nested I r rfl, d⟩
theorem room_n (hu : X.A.units + 64 < cLine) : (nestedKind X.prog X.w).room X.A.in1 := by
  show X.A.in1.units + 8 < cLine
  have : X.A.in1.units = X.A.units + 1 := rfl
  omega
/-! d[k] -/
def rIxN (X : Cx) : R2 := fun x y H Q => ∃ a xs k b v, x = .ref a ∧ NAt X H a xs ∧ y = .ref b ∧ KeyN X H k b ∧ lookX xs k = some v ∧ Q v H
theorem ix_n (hu : X.A.units + 64 < cLine) : IxR X (rIxN X) := by
  intro value slice pins s σ H x y v u Q I rx ry h hs
  obtain ⟨a, xs, k, b, w, rfl, hn, rfl, hk, hl, q⟩ := h
  obtain rfl : v = Value.ref a := rx
  obtain rfl : u = Value.ref b := ry
  obtain ⟨sm, l, _, _, ys, pr, dd⟩ := hn.full I
  obtain ⟨c, hc, rc⟩ := (look_pair (k := k) pr).1 w hl
  exact PyProof.Rows.tail_any dd.typeIs PySem.F.slot_dict_getitem.lookup (wpAny_getItem_heap (room_n hu) (hk.is I) dd hc ⟨w, H, I.tok _, rc, q⟩) hs
/-! in, not in -/
def rInN (X : Cx) (neg : Bool) : R2 := fun y x H Q => ∃ a xs k b, x = .ref a ∧ NAt X H a xs ∧ y = .ref b ∧ KeyN X H k b ∧ Q (.bl (if neg then !(lookX xs k).isSome else (lookX xs k).isSome)) H
theorem look_isSome {xs : List (NestedKey × Addr × V)} {ys : List (NestedKey × Addr × Value)} {k : NestedKey} (h : Paired PairN xs ys) : (atKey ys k).isSome = (lookX xs k).isSome := by
  obtain ⟨h1, h2⟩ := look_pair (k := k) h
  cases hq : lookX xs k with
  | none => rw [h2 hq]; rfl
  | some v => obtain ⟨q, e, _⟩ := h1 v hq; rw [e]; rfl
theorem in_n (hu : X.A.units + 64 < cLine) : OpR X (compareOp .In) (rInN X false) := by
  intro pins s σ H y x u v Q I ry rx h
  obtain ⟨a, xs, k, b, rfl, hn, rfl, hk, q⟩ := h
  obtain rfl : v = Value.ref a := rx
  obtain rfl : u = Value.ref b := ry
  obtain ⟨sm, l, _, _, ys, pr, dd⟩ := hn.full I
  refine wpAny_in_heap (room_n hu) (hk.is I) sm dd ⟨.bl (lookX xs k).isSome, H, I.tok _, ?_, q⟩
  rw [look_isSome pr]; rfl
theorem notin_n (hu : X.A.units + 64 < cLine) : OpR X (compareOp .NotIn) (rInN X true) := by
  intro pins s σ H y x u v Q I ry rx h
  obtain ⟨a, xs, k, b, rfl, hn, rfl, hk, q⟩ := h
  obtain rfl : v = Value.ref a := rx
  obtain rfl : u = Value.ref b := ry
  obtain ⟨sm, l, _, _, ys, pr, dd⟩ := hn.full I
  refine notIn_keyed (room_n hu) (hk.is I) sm ⟨ys, dd, rfl⟩ ⟨.bl (!(lookX xs k).isSome), H, I.tok _, ?_, q⟩
  rw [valueAt_pairsH, Option.isSome_map, look_isSome pr]; rfl
/-! d.get(k, z) -/
def tGetN (X : Cx) (td ty tx : TE) : TE := fun σ H Q => td σ H fun x H1 => ∃ a, x = .ref a ∧ (∃ xs, NAt X H1 a xs) ∧ ty σ H1 fun y H2 => tx σ H2 fun z H3 => ∃ xs k b, NAt X H3 a xs ∧ y = .ref b ∧ KeyN X H3 k b ∧ Q ((lookX xs k).getD z) H3
theorem pe_getN {o e f : Expr} {apos cpos : Pos} {td ty tx : TE} (hu : X.A.units + 64 < cLine) (ho : PE X o td) (he : PE X e ty) (hf : PE X f tx) (m : M2 X o "get" apos e f cpos) : PE X (.Call (.Attribute o "get" apos) [e, f] [] cpos) (tGetN X td ty tx) := by
  refine ⟨fun pins s σ H Q I h => ?_⟩
  refine wpAny_Call_method m.base m.few m.line PySem.F.plainAttrs_dict PySem.F.slot_dict_get PySem.F.type_dict_get (thn (ho.run pins s σ H _ I h) fun u s1 ⟨x, H1, I1, rx, a, ex, ⟨xs, hn⟩, q1⟩ => ?_)
  subst ex
  obtain rfl : u = Value.ref a := rx
  obtain ⟨sm, l, _, _, ys, pr, dd⟩ := hn.full I1
  refine ⟨dd.typeIs, ?_, ?_⟩
  · obtain ⟨o, es, ep, g, ex, _⟩ := dd
    exact fun a1 z => by cases z; exact ⟨o, g, ex.2.1⟩
  rw [m.trees]
  refine Calls.callWith_builtin rfl (Calls.evalArgs_plain (Calls.spliced_cons (thn (he.run pins s1 σ H1 _ I1 q1) fun iv s2 ⟨y, H2, I2, ry, q2⟩ => Calls.spliced_cons (thn (hf.run pins s2 σ H2 _ I2 q2) fun fv s3 ⟨z, H3, I3, rz, xs, k, b, hn3, ey, hk, q3⟩ => Calls.spliced_nil ?_))))
  subst ey
  obtain rfl : iv = Value.ref b := ry
  obtain ⟨sm, l, _, _, ys, pr, dd⟩ := hn3.full I3
  refine getOr_keyed (room_n hu) (hk.is I3) sm ⟨ys, dd, rfl⟩ ⟨(lookX xs k).getD z, H3, I3.tok _, ?_, q3⟩
  rw [valueAt_pairsH]
  obtain ⟨h1, h2⟩ := look_pair (k := k) pr
  cases hq : lookX xs k with
  | none => rw [h2 hq]; exact rz
  | some v => obtain ⟨q, e, r⟩ := h1 v hq; rw [e]; exact r
/-! d[k] = v -/
def setX (xs : List (NestedKey × Addr × V)) (k : NestedKey) (b : Addr) (v : V) : List (NestedKey × Addr × V) :=
  if (lookX xs k).isSome = true then xs.map (fun x => if x.1 = k then (x.1, x.2.1, v) else x) else xs ++ [(k, b, v)]
theorem put_pair {xs : List (NestedKey × Addr × V)} {ys : List (NestedKey × Addr × Value)} {k : NestedKey} {v : V} {u : Value} (h : Paired PairN xs ys) (r : RelV v u) : Paired PairN (xs.map (fun x => if x.1 = k then (x.1, x.2.1, v) else x)) (ys.map (putAt k u)) := by
  induction h with
  | nil => exact .nil
  | @cons x y l m g t ih =>
    rw [List.map_cons, List.map_cons]
    refine .cons ?_ ih
    unfold putAt
    by_cases hk : x.1 = k
    · rw [if_pos hk, if_pos (by rw [← g.1]; exact hk)]
      exact ⟨g.1, g.2.1, r⟩
    · rw [if_neg hk, if_neg (by rw [← g.1]; exact hk)]
      exact g
theorem snoc_pair {xs : List (NestedKey × Addr × V)} {ys : List (NestedKey × Addr × Value)} {k : NestedKey} {b : Addr} {v : V} {u : Value} (h : Paired PairN xs ys) (r : RelV v u) : Paired PairN (xs ++ [(k, b, v)]) (ys ++ [(k, b, u)]) := by
  induction h with
  | nil => exact .cons ⟨rfl, rfl, r⟩ .nil
  | cons g t ih => exact .cons g ih
theorem setX_pair {xs : List (NestedKey × Addr × V)} {ys : List (NestedKey × Addr × Value)} {k : NestedKey} {b : Addr} {v : V} {u : Value} (h : Paired PairN xs ys) (r : RelV v u) : Paired PairN (setX xs k b v) (storedH ys k b u) := by
  have e := look_isSome (k := k) h
  unfold setX storedH
  rw [e]
  split
  · exact put_pair h r
  · exact snoc_pair h r
theorem lookX_none {xs : List (NestedKey × Addr × V)} {k : NestedKey} : (lookX xs k).isSome = true ↔ k ∈ xs.map (·.1) := by
  unfold lookX
  rw [Option.isSome_map, List.find?_isSome]
  constructor
  · rintro ⟨x, hx, e⟩
    exact List.mem_map.mpr ⟨x, hx, of_decide_eq_true e⟩
  · intro h
    obtain ⟨x, hx, e⟩ := List.mem_map.mp h
    exact ⟨x, hx, decide_eq_true e⟩
theorem setX_keys {xs : List (NestedKey × Addr × V)} {k : NestedKey} {b : Addr} {v : V} : (setX xs k b v).map (·.1) = if k ∈ xs.map (·.1) then xs.map (·.1) else xs.map (·.1) ++ [k] := by
  unfold setX
  by_cases h : k ∈ xs.map (·.1)
  · rw [if_pos (lookX_none.mpr h), if_pos h, List.map_map]
    refine List.map_congr_left fun x _ => ?_
    show (if x.1 = k then (x.1, x.2.1, v) else x).1 = x.1
    split <;> rfl
  · rw [if_neg (fun z => h (lookX_none.mp z)), if_neg h, List.map_append]; rfl
theorem setX_len {xs : List (NestedKey × Addr × V)} {k : NestedKey} {b : Addr} {v : V} : (setX xs k b v).length ≤ xs.length + 1 := by
  unfold setX; split <;> simp
def rSetN (X : Cx) : TSet := fun o i v H Q => ∃ a xs k b, o = .ref a ∧ NAt X H a xs ∧ (∀ ob u, H a ≠ some (.frz ob u)) ∧ i = .ref b ∧ KeyN X H k b ∧ xs.length < sizeLine ∧ Q (upd H a (DictN X.prog X.w a (setX xs k b v)))
theorem set_n (hu : X.A.units + 64 < cLine) : PSet X (rSetN X) := by
  intro pins s σ H o i v ov iv u Q I ro ri rv h
  obtain ⟨a, xs, k, b, rfl, hn, hfz, rfl, hk, hl, q⟩ := h
  obtain rfl : ov = Value.ref a := ro
  obtain rfl : iv = Value.ref b := ri
  obtain ⟨sm, l, dp, nd, ys, pr, dd⟩ := hn.full I
  have hz : ys.length ≤ sizeLine := by rw [← pair_len pr]; exact l
  have mu : Mut (H a) := by
    rcases hn with ⟨h1 | ⟨ob, h1⟩, _⟩ | ⟨_, h1 | ⟨ob, h1⟩⟩
    · rw [h1]; exact True.intro
    · exact absurd h1 (hfz _ _)
    · rw [h1]; exact True.intro
    · exact absurd h1 (hfz _ _)
  refine wpAny_setItem_heap (hsz := hz) (room_n hu) (hk.is I) dd fun h' dd' hs => ⟨_, ?_, q⟩
  obtain ⟨qo, es, ep, hq, h2, h3, h4, _, h5⟩ := dd'
  refine I.write (x := a) (e := a) mu (.inl rfl) (fun c ob hc e => (hs.2 c hc).trans e) ⟨qo, hq⟩ ⟨⟨?_, sm, fun x hx => ?_, ?_, _, qo, es, ep, setX_pair pr rv, hq, h2, h3, h4⟩, ⟨qo, hq⟩, fun h1 h2 x k => ?_⟩
  · have := setX_len (xs := xs) (k := k) (b := b) (v := v); omega
  · have hx1 : x.1 ∈ (setX xs k b v).map (·.1) := List.mem_map.mpr ⟨x, hx, rfl⟩
    rw [setX_keys] at hx1
    split at hx1
    · obtain ⟨y, hy, e⟩ := List.mem_map.mp hx1
      rw [← e]; exact dp y hy
    · rcases List.mem_append.mp hx1 with hx1 | hx1
      · obtain ⟨y, hy, e⟩ := List.mem_map.mp hx1
        rw [← e]; exact dp y hy
      · rw [List.mem_singleton.mp hx1]; exact hk.1
  · rw [setX_keys]
    split
    · exact nd
    · rename_i hnk
      rw [List.nodup_append]
      exact ⟨nd, by simp, fun c hc d hd z => hnk (by rw [List.mem_singleton] at hd; rw [← hd, ← z]; exact hc)⟩
  · obtain ⟨a1, a2, a3, a4, ys', o', es', ep', b1, b2, b3, b4, b5⟩ := x
    exact ⟨a1, a2, a3, a4, ys', o', es', ep', b1, k _ b2, b3, b4, b5⟩
end
end M

namespace M
open PySem L2
def getN (kvs : List (NestedKey × D)) (k : NestedKey) : Option D := (kvs.find? fun kv => decide (kv.1 = k)).map (·.2)
def setN (kvs : List (NestedKey × D)) (k : NestedKey) (d : D) : List (NestedKey × D) :=
  if (getN kvs k).isSome = true then kvs.map (fun kv => if kv.1 = k then (kv.1, d) else kv) else kvs ++ [(k, d)]
/-- the key that a datum is -/
def keyN (d : D) : Option NestedKey := match d with
  | .tup ds => (toNK (.tup ds)).bind fun k => if k.depth ≤ 8 then some k else none
  | _ => none
/-- the dict by tuples that a datum is -/
def nOf (S : Sto) (d : D) : Option (Nat × List (NestedKey × D)) := match d with
  | .ref n => match S[n]? with
    | some (.dn kvs) => some (n, kvs)
    | some (.fn kvs) => some (n, kvs)
    | some (.dk []) => some (n, [])
    | some (.fd []) => some (n, [])
    | _ => none
  | _ => none
section
variable {K : KX} {p : List Addr} {H : Hp}
abbrev GN (K : KX) (p : List Addr) (H : Hp) (kv : NestedKey × D) (x : NestedKey × Addr × V) : Prop := kv.1 = x.1 ∧ RD K p H kv.2 x.2.2 ∧ RD K p H (nkD kv.1) (.ref x.2.1)
theorem RNs.pair : ∀ {kvs : List (NestedKey × D)} {xs : List (NestedKey × Addr × V)}, RNs K p H kvs xs → Paired (GN K p H) kvs xs
  | [], [], _ => .nil
  | [], _ :: _, h => by cases h.1
  | _ :: _, [], h => by cases h.1
  | kv :: kvs, x :: xs, h => by
    obtain ⟨h1, h2, h3⟩ := h
    rw [List.map_cons, List.map_cons] at h1 h2 h3
    obtain ⟨v, r, e, a1, a2⟩ := h2
    obtain ⟨v', r', e', b1, b2⟩ := h3
    cases e; cases e'
    injection h1 with c1 c2
    exact .cons ⟨c1, a1, b1⟩ (RNs.pair ⟨c2, a2, b2⟩)
theorem RNs.of {kvs : List (NestedKey × D)} {xs : List (NestedKey × Addr × V)} (h : Paired (GN K p H) kvs xs) : RNs K p H kvs xs := by
  induction h with
  | nil => exact ⟨rfl, rfl, rfl⟩
  | @cons kv x l m g t ih => exact ⟨by rw [List.map_cons, List.map_cons, g.1, ih.1], ⟨_, _, rfl, g.2.1, ih.2.1⟩, ⟨_, _, rfl, g.2.2, ih.2.2⟩⟩
theorem gn_look {kvs : List (NestedKey × D)} {xs : List (NestedKey × Addr × V)} {k : NestedKey} (h : Paired (GN K p H) kvs xs) : (∀ d, getN kvs k = some d → ∃ v, lookX xs k = some v ∧ RD K p H d v) ∧ (getN kvs k = none → lookX xs k = none) := by
  induction h with
  | nil => exact ⟨(fun v z => by cases z), fun _ => rfl⟩
  | @cons x y l m r t ih =>
    by_cases hk : x.1 = k
    · have e1 : getN (x :: l) k = some x.2 := by unfold getN; rw [List.find?_cons]; simp [hk]
      have e2 : lookX (y :: m) k = some y.2.2 := by unfold lookX; rw [List.find?_cons]; simp [← r.1, hk]
      rw [e1, e2]
      exact ⟨fun v z => by cases z; exact ⟨_, rfl, r.2.1⟩, fun z => by cases z⟩
    · have e1 : getN (x :: l) k = getN l k := by unfold getN; rw [List.find?_cons]; simp [hk]
      have e2 : lookX (y :: m) k = lookX m k := by unfold lookX; rw [List.find?_cons]; simp [← r.1, hk]
      rw [e1, e2]
      exact ih
theorem gn_isSome {kvs : List (NestedKey × D)} {xs : List (NestedKey × Addr × V)} {k : NestedKey} (h : Paired (GN K p H) kvs xs) : (lookX xs k).isSome = (getN kvs k).isSome := by
  obtain ⟨h1, h2⟩ := gn_look (k := k) h
  cases hq : getN kvs k with
  | none => rw [h2 hq]; rfl
  | some v => obtain ⟨q, e, _⟩ := h1 v hq; rw [e]; rfl
theorem gn_put {kvs : List (NestedKey × D)} {xs : List (NestedKey × Addr × V)} {k : NestedKey} {b : Addr} {d : D} {v : V} (h : Paired (GN K p H) kvs xs) (rk : RD K p H (nkD k) (.ref b)) (r : RD K p H d v) : Paired (GN K p H) (setN kvs k d) (setX xs k b v) := by
  have e := gn_isSome (k := k) h
  unfold setN setX
  rw [e]
  split
  · clear e
    rename_i hs
    clear hs
    induction h with
    | nil => exact .nil
    | @cons x y l m g t ih =>
      rw [List.map_cons, List.map_cons]
      refine .cons ?_ ih
      by_cases hk : x.1 = k
      · rw [if_pos hk, if_pos (by rw [← g.1]; exact hk)]
        exact ⟨g.1, r, g.2.2⟩
      · rw [if_neg hk, if_neg (by rw [← g.1]; exact hk)]
        exact g
  · clear e
    rename_i hs
    clear hs
    induction h with
    | nil => exact .cons ⟨rfl, r, rk⟩ .nil
    | cons g t ih => exact .cons g ih
end
section
variable {X : Cx} {W : XW} {p : List Addr} {H : Hp} {S : Sto}
theorem keyN_read {d : D} {v : V} {k : NestedKey} (r : RD (gX X) p H d v) (h : keyN d = some k) : ∃ b, v = .ref b ∧ KeyN X H k b ∧ nkD k = d := by
  unfold keyN at h
  split at h
  · rename_i ds
    obtain ⟨k', h1, h2⟩ := Option.bind_eq_some_iff.mp h
    split at h2
    · rename_i hd
      cases h2
      have e := toNK_eq h1
      obtain ⟨a, vs, rfl, q1, q2⟩ := id r
      exact ⟨a, rfl, ⟨hd, p, by rw [e]; exact r⟩, e⟩
    · cases h2
  · cases h
theorem gn_keys {kvs : List (NestedKey × D)} {xs : List (NestedKey × Addr × V)} (h : RNs (gX X) p H kvs xs) : ∀ x ∈ xs, ∃ p, RD (gX X) p H (nkD x.1) (.ref x.2.1) := fun x hx => by
  obtain ⟨kv, _, g⟩ := pair_mem h.pair x hx
  exact ⟨p, by rw [← g.1]; exact g.2.2⟩
theorem nOf_read {d : D} {v : V} {n : Nat} {kvs : List (NestedKey × D)} (hs : RS (gX X) p S H) (r : RD (gX X) p H d v) (h : nOf S d = some (n, kvs)) : ∃ a xs, v = .ref a ∧ p[n]? = some a ∧ NAt X H a xs ∧ RNs (gX X) p H kvs xs := by
  unfold nOf at h
  split at h
  · rename_i m
    obtain ⟨a, ea, rfl⟩ := r
    split at h
    · rename_i kvs' hd
      cases h
      obtain ⟨x, ex, xs, rfl, rn⟩ := hs.get n a _ ea hd
      exact ⟨a, xs, rfl, ea, .inl ⟨.inl ex, gn_keys rn⟩, rn⟩
    · rename_i kvs' hd
      cases h
      obtain ⟨x, ex, ob, xs, rfl, rn⟩ := hs.get n a _ ea hd
      exact ⟨a, xs, rfl, ea, .inl ⟨.inr ⟨ob, ex⟩, gn_keys rn⟩, rn⟩
    · rename_i hd
      cases h
      obtain ⟨x, ex, ws, rfl, rk⟩ := hs.get n a _ ea hd
      have : ws = [] := by have := rk.1; simpa using this.symm
      subst this
      exact ⟨a, [], rfl, ea, .inr ⟨rfl, .inl ex⟩, RNs.of .nil⟩
    · rename_i hd
      cases h
      obtain ⟨x, ex, ob, ws, rfl, rk⟩ := hs.get n a _ ea hd
      have : ws = [] := by have := rk.1; simpa using this.symm
      subst this
      exact ⟨a, [], rfl, ea, .inr ⟨rfl, .inr ⟨ob, ex⟩⟩, RNs.of .nil⟩
    · cases h
  · cases h
/-! d[k] -/
def opIxN (x i : D) (S : Sto) : Rs D := match nOf S x, keyN i with
  | some (_, kvs), some k => (match getN kvs k with
    | some d => .ok d S
    | none => .bad)
  | _, _ => .bad
theorem pr_ixN : Prim2 (gX X) W (rIxN X) opIxN := by
  intro p S H x y v u Q hs rx ry q
  unfold opIxN at q
  split at q
  · rename_i n kvs k h1 h2
    split at q
    · rename_i d hd
      obtain ⟨a, xs, rfl, ea, hn, rn⟩ := nOf_read hs rx h1
      obtain ⟨b, rfl, hk, _⟩ := keyN_read ry h2
      obtain ⟨w, e, rw'⟩ := (gn_look rn.pair).1 d hd
      exact ⟨a, xs, k, b, w, rfl, hn, rfl, hk, e, post_ok q hs w rw'⟩
    · exact q.elim
  · exact q.elim
/-! in -/
def opInN (neg : Bool) (y x : D) (S : Sto) : Rs D := match nOf S x, keyN y with
  | some (_, kvs), some k => .ok (.bl (if neg then !(getN kvs k).isSome else (getN kvs k).isSome)) S
  | _, _ => .bad
theorem pr_inN {neg : Bool} : Prim2 (gX X) W (rInN X neg) (opInN neg) := by
  intro p S H y x u v Q hs ry rx q
  unfold opInN at q
  split at q
  · rename_i n kvs k h1 h2
    obtain ⟨a, xs, rfl, ea, hn, rn⟩ := nOf_read hs rx h1
    obtain ⟨b, rfl, hk, _⟩ := keyN_read ry h2
    refine ⟨a, xs, k, b, rfl, hn, rfl, hk, ?_⟩
    rw [gn_isSome rn.pair]
    exact post_ok q hs _ rfl
  · exact q.elim
/-! d.get(k, z) -/
def fGetN (x y z : D) (S : Sto) : Rs D := match nOf S x, keyN y with
  | some (_, kvs), some k => .ok ((getN kvs k).getD z) S
  | _, _ => .bad
def mGetN (ma mb mc : En → Sto → Rs D) : En → Sto → Rs D := fun E S => (ma E S).bind fun x S1 => if (nOf S1 x).isSome then (mb E S1).bind fun y S2 => (mc E S2).bind fun z S3 => fGetN x y z S3 else .bad
theorem me_getN {o e f : Expr} {apos cpos : Pos} {ma mb mc : En → Sto → Rs D} (hu : X.A.units + 64 < cLine) (ho : ME X W o ma) (he : ME X W e mb) (hf : ME X W f mc) (m : M2 X o "get" apos e f cpos) : ME X W (.Call (.Attribute o "get" apos) [e, f] [] cpos) (mGetN ma mb mc) :=
  PE.imp (pe_getN hu ho he hf m) fun σ H Q q => by
    obtain ⟨p, S, E, hs, he, q⟩ := q
    refine lE_step hs he (post_mono (fun x S1 p1 H1 x1 hs1 q1 v rv => ?_) (post_bind q))
    split at q1
    · rename_i hd
      obtain ⟨⟨n, kvs⟩, h1⟩ := Option.isSome_iff_exists.mp hd
      obtain ⟨a, xs, rfl, ea, hn, rn⟩ := nOf_read hs1 rv h1
      refine ⟨a, rfl, ⟨xs, hn⟩, lE_step hs1 (he.mono x1.pre x1.tup) (post_mono (fun y S2 p2 H2 x2 hs2 q2 w rw' => ?_) (post_bind q1))⟩
      refine lE_step hs2 ((he.mono x1.pre x1.tup).mono x2.pre x2.tup) (post_mono (fun z S3 p3 H3 x3 hs3 q3 u ru => ?_) (post_bind q2))
      have rv3 := (rv.mono x2.pre x2.tup).mono x3.pre x3.tup
      have rw3 := rw'.mono x3.pre x3.tup
      unfold fGetN at q3
      split at q3
      · rename_i n' kvs' k g1 g2
        obtain ⟨a', xs', e1, ea', hn', rn'⟩ := nOf_read hs3 rv3 g1
        cases e1
        obtain ⟨b, rfl, hk, _⟩ := keyN_read rw3 g2
        refine ⟨xs', k, b, hn', rfl, hk, post_ok q3 hs3 _ ?_⟩
        obtain ⟨i1, i2⟩ := gn_look (k := k) rn'.pair
        cases hq : getN kvs' k with
        | none => rw [i2 hq]; exact ru
        | some d => obtain ⟨v, e, r⟩ := i1 d hq; rw [e]; exact r
      · exact q3.elim
    · exact q1.elim
/-! d[k] = v -/
def fSetN (o i v : D) (S : Sto) : Rs Unit := match o with
  | .ref n => match S[n]? with
    | some (.dn kvs) => (match keyN i with
      | some k => if kvs.length < sizeLine then .ok () (S.set n (.dn (setN kvs k v))) else .bad
      | none => .bad)
    | some (.dk []) => (match keyN i with
      | some k => .ok () (S.set n (.dn (setN [] k v)))
      | none => .bad)
    | _ => .bad
  | _ => .bad
theorem pr_setN : PrimS (gX X) W (rSetN X) fSetN := by
  intro p S H o i d ov iv v Q hs ro ri rd q
  unfold fSetN at q
  split at q
  · rename_i n
    obtain ⟨a, ea, rfl⟩ := ro
    split at q
    · rename_i kvs hd
      split at q
      · rename_i k hk
        split at q
        · rename_i hl
          obtain ⟨x, ex, xs, rfl, rn⟩ := hs.get n a _ ea hd
          obtain ⟨b, rfl, hkn, hkd⟩ := keyN_read ri hk
          have hlen : kvs.length = xs.length := pair_len rn.pair
          refine ⟨a, xs, k, b, rfl, .inl ⟨.inl ex, gn_keys rn⟩, (fun ob u z => by rw [ex] at z; cases z), rfl, hkn, by rw [← hlen]; exact hl, ?_⟩
          have sf : Safe (DictN X.prog X.w a xs) := .inr (.inl ⟨_, _, _, _, rfl⟩)
          have x1 : Ext (gX X) p H p (upd H a (DictN X.prog X.w a (setX xs k b v))) := Ext.set (mem_of_get ea) ex sf (fun _ _ z => by cases z)
          exact q p _ x1 (hs.set ea hd ex sf ⟨_, rfl, RNs.of (gn_put rn.pair (by rw [hkd]; exact ri) rd)⟩)
        · exact q.elim
      · exact q.elim
    · rename_i hd
      split at q
      · rename_i k hk
        obtain ⟨x, ex, ws, rfl, rk⟩ := hs.get n a _ ea hd
        have : ws = [] := by have := rk.1; simpa using this.symm
        subst this
        obtain ⟨b, rfl, hkn, hkd⟩ := keyN_read ri hk
        have hz : 0 < sizeLine := by decide
        refine ⟨a, [], k, b, rfl, .inr ⟨rfl, .inl ex⟩, (fun ob u z => by rw [ex] at z; cases z), rfl, hkn, hz, ?_⟩
        have x1 : Ext (gX X) p H p (upd H a (DictN X.prog X.w a (setX [] k b v))) := Ext.set (mem_of_get ea) ex (.inl rfl) (fun _ _ z => by cases z)
        exact q p _ x1 (hs.set ea hd ex (.inl rfl) ⟨_, rfl, RNs.of (gn_put (kvs := []) .nil (by rw [hkd]; exact ri) rd)⟩)
      · exact q.elim
    · exact q.elim
  · exact q.elim
/-! min(d.values()) -/
theorem pe_viewN {e : Expr} {td : TE} {apos cpos : Pos} (he : PE X e td) (hbase : attributeBase e "values" X.env (eval e X.env) = eval e X.env := by rfl) (hline : (apos.endLine == cpos.line) = true := by rfl) :
    PE X (.Call (.Attribute e "values" apos) [] [] cpos) (fun σ H Q => td σ H fun x H1 => ∃ d xs, x = .ref d ∧ NAt X H1 d xs ∧ ∀ a, H1 a = none → Q (.ref a) (upd H1 a (ViewO a d))) := by
  refine ⟨fun pins s σ H Q I h => ?_⟩
  refine wpAny_Call_method (T := "dict") (id := "dict.values") hbase rfl hline F.plainAttrs_dict F.slot_dict_values F.type_dict_values (thn (he.run pins s σ H _ I h) fun u s1 ⟨x, H1, I1, rx, d, xs, ex, hn, q⟩ => ?_)
  subst ex
  obtain rfl : u = Value.ref d := rx
  obtain ⟨sm, l, _, _, ys, pr, dd⟩ := hn.full I1
  obtain ⟨o, es, ep, g0, ex0, dt0, r0⟩ := id dd
  refine ⟨dd.typeIs, fun a1 z => by cases z; exact ⟨o, g0, ex0.2.1⟩, ?_⟩
  have hnn : H1 s1.heap.objs.size = none := I1.hok.fresh (Nat.le_refl _)
  have g : (s1.heap.push { cls := .type "dict_values", data := .fields #[.ref d] }).get? s1.heap.objs.size = some { cls := .type "dict_values", data := .fields #[.ref d] } := Heap.get?_push_size _ rfl
  have I2 : Inv X pins σ (upd H1 s1.heap.objs.size (ViewO s1.heap.objs.size d)) { s1 with heap := s1.heap.push { cls := .type "dict_values", data := .fields #[.ref d] } } := I1.laid (t' := s1.toks) (fun b ob q => Heap.get?_push_of_some _ q) (Nat.le_refl _)
    ⟨g, ⟨_, g⟩, fun h1 h2 e1 k => k _ e1⟩
  have fin : EP X pins σ Q (.ref s1.heap.objs.size) { s1 with heap := s1.heap.push { cls := .type "dict_values", data := .fields #[.ref d] } } := ⟨.ref s1.heap.objs.size, _, I2, rfl, q _ hnn⟩
  show wpAny _ _ (callWith cpos (.builtin "dict.values") [.ref d] [] []) _ X.xe s1
  exact method_meetsIn F.slot_dict_values F.entry_dict_values rfl (PySem.evalArgs_none ⟨rfl, dd.typeIs, F.args_dict_values_1 _, _, meets_dict_values_raw d sm, ⟨es, ep, o, g0, ex0, dt0⟩, fin⟩)
end
end M

namespace M
open PySem L2 PySem.Spec PyProof.Rows
section
variable {X : Cx} {W : XW}
/-! min(d.values()), d by tuples -/
def rMinVN (X : Cx) : List V → Hp → VK → Prop := fun vs H Q => ∃ a d xs ns, vs = [.ref a] ∧ H a = some (ViewO a d) ∧ NAt X H d xs ∧ xs.map (·.2.2) = List.map V.int ns ∧ 0 < ns.length ∧ ∀ m, m ∈ ns → (∀ y, y ∈ ns → m ≤ y) → Q (.int m) H
theorem cr_minVN (hc : X.calm = true) : CallR X (.builtin "min") (rMinVN X) := by
  intro pins s σ H vs us Q I r h
  obtain ⟨a, d, xs, ns, rfl, ha, hn, hns, hpos, q⟩ := h
  rw [Vals.ref1 r]
  obtain ⟨sm, l, _, _, ys, pr, dd⟩ := hn.full I
  obtain ⟨o, es, ep, g0, ex0, dt0, el, _⟩ := id dd
  obtain ⟨hv, _, _⟩ := I.hok a _ ha
  have hlen := pair_len pr
  have hln : xs.length = ns.length := by have := congrArg List.length hns; simpa using this
  have hes : es.size = ys.length := by rw [← Array.length_toList, el, List.length_map]
  have hdl : d < s.heap.objs.size := Heap.lt_size g0
  have hraw : s.heap.DictRaw d es ep := ⟨o, g0, ex0, dt0⟩
  have val : ∀ i v, (∃ hi : i < es.size, v = es[i].val) → ∃ t, v = Value.int (ns.getD i 0) t := fun i v ⟨hi, hk⟩ => by
    have hix : i < xs.length := by omega
    obtain ⟨y, hy, _, _, ry⟩ := pair_at pr (i := i) (a := xs[i]) (by simp [hix])
    have e1 : es[i] = entryOfKey (nestedKind X.prog X.w) y := by
      have h1 : es.toList[i]? = some es[i] := by rw [Array.getElem?_toList]; simp [hi]
      rw [el, List.getElem?_map, hy] at h1
      exact (Option.some.inj h1).symm
    have e2 : (xs.map (·.2.2))[i]? = some (xs[i]).2.2 := by rw [List.getElem?_map]; simp [hix]
    rw [hns, List.getElem?_map] at e2
    cases hq : ns[i]? with
    | none => rw [hq] at e2; cases e2
    | some n =>
      rw [hq] at e2
      have e3 : V.int n = (xs[i]).2.2 := by simpa using e2
      rw [← e3] at ry
      obtain ⟨t, et⟩ := ry
      exact ⟨t, by rw [hk, e1]; show y.2.2 = _; rw [et]; simp [hq]⟩
  refine call_min_walk (wpAny_pyIter_values_raw (d := d) ⟨_, hv, rfl, rfl⟩ hraw ?_)
  have hdI : d ≠ s.heap.objs.size := Nat.ne_of_lt hdl
  refine ⟨_, _, _, _, _, _, _, rfl, Walks.rawValues (prog := X.prog) (w := X.w) (A := X.A.in1) (I.ok.hd hc) s.heap.objs.size d hdI es ep, ⟨⟨_, Heap.get?_push_size _ rfl, rfl, rfl⟩, hraw.push _⟩, fun b hb => ?_, by omega, CmpOf.ints_lt (fun i => ns.getD i 0) val, fun v h' tk hP hk => ?_⟩
  · show b < (s.heap.push _).objs.size
    rw [Heap.size_push]
    have e' : b = s.heap.objs.size ∨ b = d := by simpa using hb
    rcases e' with rfl | rfl
    · exact Nat.lt_succ_self _
    · exact Nat.lt_succ_of_lt hdl
  · obtain ⟨t, rfl⟩ := val _ _ hP
    obtain ⟨h1, h2⟩ := argBest_lt (fun i => ns.getD i 0) (es.size - 1)
    refine ⟨.int _, H, I.kept fun b o e => hk b o (fun hm => ?_) (Heap.get?_push_of_some _ e), ⟨t, rfl⟩, q _ ?_ fun y hy => ?_⟩
    · have : b = s.heap.objs.size := by simpa using hm
      rw [this] at e
      exact Nat.lt_irrefl _ (Heap.lt_size e)
    · exact PySem.getD_mem (by omega)
    · obtain ⟨j, hj, rfl⟩ := mem_getD hy
      exact h2 j (by omega)
def fMinVN (d : D) (S : Sto) : Rs D := match nOf S d with
  | some (_, kvs) => fMin (kvs.map (·.2)) S
  | none => .bad
theorem me_minVN {e : Expr} {m : En → Sto → Rs D} {p pos apos cpos : Pos} (hc : X.calm = true) (hg : Gl X "min") (hm : X.mg "min" = none) (he : ME X W e m) (hbase : attributeBase e "values" X.env (eval e X.env) = eval e X.env := by rfl) (hline : (apos.endLine == cpos.line) = true := by rfl)
    (hst : starEach [.Call (.Attribute e "values" apos) [] [] cpos] X.env = (false, eval (.Call (.Attribute e "values" apos) [] [] cpos) X.env) :: starEach [] X.env := by rfl) (hpl : (backTo pos (starEach [] X.env)).any (·.1) = false := by rfl) :
    ME X W (.Call (.Name "min" p) [.Call (.Attribute e "values" apos) [] [] cpos] [] pos) (m1 fMinVN m) :=
  PE.imp (pe_callB (cr_minVN hc) hg hm PyProof.Rows.boot_min (pa_cons (pe_viewN he hbase hline) pa_nil hst) (by decide) (by decide) hst hpl) fun σ H Q q => by
    obtain ⟨p, S, E, hs, he, q⟩ := q
    refine lE_step hs he (post_mono (fun d S1 p1 H1 x1 hs1 q1 v rv => ?_) (post_bind q))
    unfold fMinVN at q1
    split at q1
    · rename_i n kvs hd
      obtain ⟨a, xs, rfl, ea, hn, rn⟩ := nOf_read hs1 rv hd
      unfold fMin at q1
      split at q1
      · rename_i n' ns hn'
        have e1 := toInts_eq hn'
        have rk2 := rn.2.1
        rw [e1] at rk2
        have e2 := ints_read rk2
        refine ⟨a, xs, rfl, hn, fun b hb => ?_⟩
        have hne : ∀ o, H1 a = some o → a ≠ b := fun o ho => ne_of_none ho hb
        have up : ∀ o, Rd H1 a o → Rd (upd H1 b (ViewO b a)) a o := fun o h => by
          rcases h with h | ⟨ob, h⟩
          · exact .inl (by rw [upd_ne (hne _ h)]; exact h)
          · exact .inr ⟨ob, by rw [upd_ne (hne _ h)]; exact h⟩
        have hn2 : NAt X (upd H1 b (ViewO b a)) a xs := by
          rcases hn with ⟨h, hk⟩ | ⟨h, hk⟩
          · exact .inl ⟨up _ h, fun x hx => let ⟨p, r⟩ := hk x hx; ⟨p, r.mono (Pre.refl _) (Keep.new hb)⟩⟩
          · exact .inr ⟨h, up _ hk⟩
        refine ⟨b, a, xs, n' :: ns, rfl, upd_same, hn2, e2, by simp, fun m hm hall => ?_⟩
        obtain ⟨h1, h2⟩ := foldl_min_spec ns n'
        have em : m = ns.foldl min n' := Int.le_antisymm (hall _ h2) (h1 m hm)
        rw [em]
        exact q1 p1 _ (Ext.new hb) (hs1.frame hb) _ rfl
      · exact q1.elim
    · exact q1.elim
/-! sorted(xs): a list or a tuple of ints -/
theorem sorted_tup {A : Around} {E : Value → Shared → Prop} {s : Shared} {prog : Program} {w : World} {t : Addr} {its : List Value} {ns : List Int} {Q : Value → Shared → Prop} (ht : IsTup s.heap t its.toArray) (hI : IntsAre its ns) (hz : its.length ≤ sizeLine)
    (h : ∀ (a : Addr) (h2 : Heap) (out : List Value) (e : Nat) (ns' : List Int), (∀ b o, s.heap.get? b = some o → h2.get? b = some o) → s.heap.get? a = none → h2.get? a = some (PyProof.Rows.seqObj "list" out.toArray e) → IntsAre out ns' → ns'.Perm ns → ns'.Pairwise (· ≤ ·) → Q (.ref a) { s with heap := h2 }) :
    wpAny (model prog w) A (call (.builtin "sorted") [.ref t]) Q E s := by
  refine Calls.call_function_entry PyProof.Rows.kind_sorted PyProof.Rows.plain_sorted PyProof.Rows.entry_sorted (PyProof.Rows.args_sorted1 _) ?_
  unfold Builtin.«sorted»
  refine wpAny_bind (m := checkCount "sorted" 1 1 _) (wpAny_pure ?_)
  obtain ⟨o, ho, hcl, n, hd⟩ := ht
  refine wpAny_bind (wpAny_collect_seq t (.inr rfl) ho hcl hd (fun h' k => ?_) (by simpa using hz))
  refine wpAny_bind (wpAny_newList ?_ (by simpa using hz))
  have hoL : (h'.push { cls := .type "list", data := .seq its.toArray.toList.toArray }).get? h'.objs.size = some (PyProof.Rows.seqObj "list" its.toArray 0) := Heap.get?_push_size _ rfl
  have kp : ∀ b o, s.heap.get? b = some o → b < h'.objs.size ∧ (h'.push { cls := .type "list", data := .seq its.toArray.toList.toArray }).get? b = some o := fun b o q => ⟨Heap.lt_size (k b o q), Heap.get?_push_of_some _ (k b o q)⟩
  have hge : s.heap.get? h'.objs.size = none := by
    cases hq : s.heap.get? h'.objs.size with
    | none => rfl
    | some o => exact absurd (Heap.lt_size (k _ _ hq)) (Nat.lt_irrefl _)
  refine wpAny_bind (wpAny_holding (wpAny_call_entry PyProof.Rows.slot_list_sort ⟨_, hoL, rfl⟩ PyProof.Rows.entry_list_sort (SrtO.list_sort_ord SrtO.swo_int hoL hz (fun h2 => SrtO.ints_sortable hI h2) fun out hs hb => ⟨_, rfl, ?_⟩) (PyProof.Rows.args_list_sort _)))
  obtain ⟨k1, k2, k3⟩ := SrtO.ints_out hI hs hb
  obtain ⟨e, he⟩ := PyProof.Rows.sortedHeap_at (out := out.toArray) hoL
  refine wpAny_pure ⟨_, rfl, h _ _ out e _ (fun b o q => ?_) hge he k1 k2 k3⟩
  obtain ⟨q1, q2⟩ := kp b o q
  rw [PyProof.Rows.sortedHeap_old (Nat.ne_of_lt q1) (by rw [Heap.size_push]; exact Nat.lt_succ_of_lt q1)]
  exact q2
def rSortL (K : PySem.W.Frag) : List V → Hp → VK → Prop := fun vs H Q => ∃ (a : Addr) (ns : List Int), vs = [V.ref a] ∧ (SqL K H a (ns.map V.int) ∨ SqT K H a (ns.map V.int)) ∧
  ∀ (ns' : List Int) (p : Addr), ns'.Perm ns → ns'.Pairwise (· ≤ ·) → H p = none → Q (.ref p) (upd H p (.lst (ns'.map V.int)))
theorem cr_sortL : CallR X (.builtin "sorted") (rSortL X.K) := by
  intro pins s σ H vs us Q I r h
  obtain ⟨a, ns, rfl, hs, q⟩ := h
  rcases hs with hs | hs
  · exact cr_sortedI pins s σ H _ us Q I r ⟨a, ns, rfl, hs, q⟩
  · obtain ⟨its, rv, ht, hz⟩ := I.tuple hs
    rw [Vals.ref1 r]
    have hi := rv.ints
    refine sorted_tup ht hi (by rw [← rv.length]; exact hz) fun b h2 out e ns' k hb hg i1 i2 i3 => ?_
    have hn : H b = none := HOk.gone I.hok hb
    refine ⟨.ref b, upd H b (.lst (ns'.map V.int)), I.laidN (t' := s.toks) k hb hn ⟨?_, out, e, vals_of_ints i1, hg⟩, rfl, q ns' b i2 i3 hn⟩
    rw [List.length_map, i2.length_eq]
    simpa using hz
/-- ints in order -/
def insI (x : Int) : List Int → List Int
  | [] => [x]
  | y :: ys => if x ≤ y then x :: y :: ys else y :: insI x ys
def sortI (ns : List Int) : List Int := ns.foldr insI []
theorem insI_perm {x : Int} : ∀ {ys : List Int}, (insI x ys).Perm (x :: ys)
  | [] => List.Perm.refl _
  | y :: ys => by
    rw [insI]
    split
    · exact List.Perm.refl _
    · exact (List.Perm.cons y insI_perm).trans (List.Perm.swap ..)
theorem sortI_perm : ∀ {ns : List Int}, (sortI ns).Perm ns
  | [] => List.Perm.refl _
  | n :: ns => insI_perm.trans (List.Perm.cons n sortI_perm)
theorem insI_le {x : Int} : ∀ {ys : List Int}, ys.Pairwise (· ≤ ·) → (insI x ys).Pairwise (· ≤ ·)
  | [], _ => List.pairwise_singleton _ _
  | y :: ys, h => by
    rw [insI]
    have h' := List.pairwise_cons.mp h
    split
    · rename_i hle
      refine List.pairwise_cons.mpr ⟨fun z hz => ?_, h⟩
      rcases List.mem_cons.mp hz with rfl | hz
      · exact hle
      · exact Int.le_trans hle (h'.1 z hz)
    · rename_i hnle
      refine List.pairwise_cons.mpr ⟨fun z hz => ?_, insI_le h'.2⟩
      rcases List.mem_cons.mp (insI_perm.mem_iff.mp hz) with rfl | hz
      · omega
      · exact h'.1 z hz
theorem sortI_le : ∀ {ns : List Int}, (sortI ns).Pairwise (· ≤ ·)
  | [] => List.Pairwise.nil
  | _ :: _ => insI_le sortI_le
theorem le_unique : ∀ {a b : List Int}, a.Pairwise (· ≤ ·) → b.Pairwise (· ≤ ·) → a.Perm b → a = b
  | [], b, _, _, p => p.nil_eq
  | x :: a, [], _, _, p => absurd p.length_eq (by simp)
  | x :: a, y :: b, ha, hb, p => by
    have ha' := List.pairwise_cons.mp ha
    have hb' := List.pairwise_cons.mp hb
    have e : x = y := by
      have h1 : x ≤ y := by
        rcases List.mem_cons.mp (p.mem_iff.mpr (List.mem_cons_self ..) : y ∈ x :: a) with e | h
        · omega
        · exact ha'.1 y h
      have h2 : y ≤ x := by
        rcases List.mem_cons.mp (p.mem_iff.mp (List.mem_cons_self ..) : x ∈ y :: b) with e | h
        · omega
        · exact hb'.1 x h
      omega
    subst e
    rw [le_unique ha'.2 hb'.2 (List.Perm.cons_inv p)]
def fSorted (ds : List D) (S : Sto) : Rs D := match ds with
  | [.tup xs] => (match toInts xs with
    | some ns => .ok (.ref S.length) (S ++ [.lst ((sortI ns).map .int)])
    | none => .bad)
  | [.ref n] => (match S[n]? with
    | some (.lst xs) => (match toInts xs with
      | some ns => .ok (.ref S.length) (S ++ [.lst ((sortI ns).map .int)])
      | none => .bad)
    | _ => .bad)
  | _ => .bad
theorem pr_sorted : PrimN (gX X) W (rSortL X.K) fSorted := by
  intro p S H xs vs Q hs rs q
  have fin : ∀ (a : Addr) (ns : List Int), post (gX X) W p H (.ok (.ref S.length) (S ++ [.lst ((sortI ns).map .int)])) (kE (gX X) Q) → (SqL X.K H a (ns.map V.int) ∨ SqT X.K H a (ns.map V.int)) → rSortL X.K [V.ref a] H Q := fun a ns q h => by
    refine ⟨a, ns, rfl, h, fun ns' b pm pw hb => ?_⟩
    have e : ns' = sortI ns := le_unique pw sortI_le (pm.trans sortI_perm.symm)
    rw [e]
    exact q (p ++ [b]) _ (Ext.alloc hb) (hs.alloc hb ⟨_, rfl, rds_ints _⟩) _ ⟨b, by rw [← hs.len]; simp, rfl⟩
  unfold fSorted at q
  split at q
  · rename_i ds
    obtain ⟨v, r, rfl, ⟨a, us, rfl, e, rr⟩, h2⟩ := rs
    cases (show r = [] from h2)
    split at q
    · rename_i ns hn
      rw [toInts_eq hn] at rr
      rw [ints_read rr] at e
      exact fin a ns q (.inr e)
    · exact q.elim
  · rename_i n
    obtain ⟨v, r, rfl, ⟨a, ea, rfl⟩, h2⟩ := rs
    cases (show r = [] from h2)
    split at q
    · rename_i ds hd
      split at q
      · rename_i ns hn
        obtain ⟨x, ex, us, rfl, rr⟩ := hs.get n a _ ea hd
        rw [toInts_eq hn] at rr
        rw [ints_read rr] at ex
        exact fin a ns q (.inl (.of ex))
      · exact q.elim
    · exact q.elim
  · exact q.elim
end
end M

namespace M
open PySem L2
/-! ### f(a, .., k = v, ..), without defaults, the keywords in the order of the parameters -/
def gk {α : Type} (n m : Nat) (us ws : List α) : List α := if us.length = n ∧ ws.length = m then us ++ ws else []
structure DefK (P : Program) (w : World) (K : PySem.W.Frag) (mg : Str → Option Value) (base : Heap) (k : Nat) (x : Str) (st : Stmt) (ps : List Str) (mf : List D → Sto → Rs D) : Prop where
  ex : ∃ (f : Addr) (fd : FuncData), FnOk P w K mg base CX0 k f fd ps (spM ⟨K, P, w⟩ ps.length mf) ∧ mg x = some (.ref f) ∧ PySem.W.keepIn K (.ref f) = true ∧ Binds K fd ps [] ∧ FunD K x x (defArgs st) (defBody st) (defScope st) [] [] f fd
section
variable {P : Program} {w : World} {K : PySem.W.Frag} {mg : Str → Option Value} {base : Heap}
theorem DefK.at {k : Nat} {x : Str} {st : Stmt} {ps : List Str} {mf : List D → Sto → Rs D} (h : DefK P w K mg base k x st ps mf) : DefAt P w K mg base k x ps.length mf := by
  obtain ⟨f, fd, h1, h2, h3, h4, _⟩ := h.ex
  exact ⟨f, fd, ps, h1, h2, h3, h4⟩
theorem defAtK {x : Str} {st : Stmt} {N ps : List Str} {k : Nat} {mb : En → Sto → Rs Fl} (F : ∃ fd, FunD K x x (defArgs st) (defBody st) (defScope st) [] [] (He.ga K x) fd) (hm : mg x = some (.ref (He.ga K x))) (S : FnScope N ps (defScope st))
    (hbd : ∀ (kV doc pm : Value) (an : Option Addr) (cdv ct : Value) (us : List Value), us.length = ps.length → bindArgs (PySem.W.fnOf x x (defArgs st) (defBody st) (defScope st) .none kV doc pm an cdv ct) ⟨us, []⟩ = pure (ps.zip us))
    (hb : ∀ (A : Around) (outer : List Env) (s : Shared) (H : Hp) (E : XK), Room k (A.deeper (PyProof.Rows.envOfC x (defScope st) s.heap.objs.size (He.ga K x) (.ref (He.codeOf K (x, none))))) → MSs (cxOf CX0 P w K mg base N x (defScope st) (He.ga K x) (.ref (He.codeOf K (x, none))) A outer s H E).nox W0 (defBody st) mb) :
    DefK P w K mg base (k + 1) x st ps (mDef N.length mb) := by
  obtain ⟨fd, F⟩ := F
  exact ⟨_, fd, ok_defC F S hb, hm, F.kp, F.bindsN hbd, F⟩
theorem kb_of {x : Str} {st : Stmt} {f : Addr} {fd : FuncData} {ps : List Str} (F : FunD K x x (defArgs st) (defBody st) (defScope st) [] [] f fd) (n : Nat) (ks : List Str) (hp : 0 < ps.length)
    (h : ∀ (kV doc pm : Value) (an : Option Addr) (cdv ct : Value) (us ws : List Value), us.length = n → ws.length = ks.length → bindArgs (PySem.W.fnOf x x (defArgs st) (defBody st) (defScope st) .none kV doc pm an cdv ct) ⟨us, ks.zip ws⟩ = pure (ps.zip (us ++ ws))) :
    KBinds K fd ps ks (gk n ks.length) (gk n ks.length) := by
  obtain ⟨oc, od, dV, kV, doc, pm, an, cdv, ct, osl, rfl, lk, hcd, hD, hK⟩ := F.ex
  rcases hD with ⟨_, rfl⟩ | ⟨e, _⟩
  · refine ⟨fun s us ws _ hl => ?_, fun {vs us zs ws} r1 r2 => ?_⟩
    · unfold gk at hl ⊢
      split at hl
      · rename_i hc
        rw [if_pos hc]
        exact .of_eq (h kV doc pm an cdv ct us ws hc.1 hc.2)
      · simp at hl; omega
    · unfold gk
      rw [r1.length, r2.length]
      split
      · exact r1.append r2
      · exact .nil
  · exact absurd rfl e
end
section
variable {X : Cx} {W : XW}
abbrev MKs (X : Cx) (W : XW) (kws : List Keyword) (m : En → Sto → Rs (List D)) : Prop := PK X kws (lA (gX X) W m)
theorem PK.imp {kws : List Keyword} {t t' : TA} (h : PK X kws t) (hi : ∀ σ H Q, t' σ H Q → t σ H Q) : PK X kws t' := ⟨fun pos pins s σ H Q I hw => h.run pos pins s σ H Q I (hi σ H Q hw)⟩
theorem mk_nil : MKs X W [] aNil := PK.imp pk_nil fun σ H Q q => by
  obtain ⟨p, S, E, hs, he, q⟩ := q
  exact post_ok q hs [] rfl
theorem mk_cons {e : Expr} {nm : Option Str} {kpos : Pos} {kws : List Keyword} {na : En → Sto → Rs D} {r : En → Sto → Rs (List D)} (ha : ME X W e na) (hr : MKs X W kws r) : MKs X W (⟨nm, e, kpos⟩ :: kws) (aCons na r) :=
  PK.imp (pk_cons ha hr) fun σ H Q q => by
    obtain ⟨p, S, E, hs, he, q⟩ := q
    refine lE_step hs he (post_mono (fun d S1 p1 H1 x1 hs1 q1 v rv => ?_) (post_bind q))
    refine ⟨p1, S1, E, hs1, he.mono x1.pre x1.tup, post_mono (fun ds S2 p2 H2 x2 hs2 q2 vs rvs => ?_) (post_bind q1)⟩
    exact post_ok q2 hs2 (v :: vs) ⟨_, _, rfl, rv.mono x2.pre x2.tup, rvs⟩
def mNK (n m : Nat) (f : List D → Sto → Rs D) (t tk : En → Sto → Rs (List D)) : En → Sto → Rs D := fun E S => (t E S).bind fun xs S1 => (tk E S1).bind fun zs S2 => if xs.length = n ∧ zs.length = m then f (xs ++ zs) S2 else .bad
theorem me_clK {k j a b n : Nat} {mf : List D → Sto → Rs D} {x : Str} {st : Stmt} {ps ks : List Str} {p pos : Pos} {e : Expr} {es : List Expr} {kws : List Keyword} {t tk : En → Sto → Rs (List D)} (F : DefK X.prog X.w X.K X.mg X.base k x st ps mf) (hr : Room j X.A) (hk : k ≤ j) (hg : Gl X x) (hn : 0 < ps.length)
    (hbd : ∀ (kV doc pm : Value) (an : Option Addr) (cdv ct : Value) (us ws : List Value), us.length = a → ws.length = ks.length → bindArgs (PySem.W.fnOf x x (defArgs st) (defBody st) (defScope st) .none kV doc pm an cdv ct) ⟨us, ks.zip ws⟩ = pure (ps.zip (us ++ ws)))
    (ha : MA X W (e :: es) t) (hkw : MKs X W kws tk) (hall : (backToKw pos (keywordEach kws X.env)).all (·.1.isSome) = true := by rfl) (hks : (backToKw pos (keywordEach kws X.env)).filterMap (·.1) = ks := by rfl)
    (hdb : (x == ("__debug__" : Str)) = false := by decide) (he : starEach (e :: es) X.env = (false, eval e X.env) :: starEach es X.env := by rfl)
    (hpl : ((backTo pos (starEach (e :: es) X.env)).any (·.1) || (backToKw pos (keywordEach kws X.env)).any (·.1.isNone)) = false := by rfl) (hkl : ks.length = b := by rfl) (hpn : ps.length = n := by rfl) : ME X W (.Call (.Name x p) (e :: es) kws pos) (mNK a b (mCl n mf) t tk) := by
  subst hkl
  subst hpn
  obtain ⟨f, fd, F1, hm, hkp, hb, FD⟩ := F.ex
  refine PE.imp (pe_callK F1 (hr.mono hk) hg hm hkp (kb_of FD a ks hn hbd) pass0 ha hkw hall hks hdb he hpl) fun σ H Q q => ?_
  obtain ⟨p, S, E, hs, he, q⟩ := q
  refine ⟨p, S, E, hs, he, post_mono (fun ds S1 p1 H1 x1 hs1 q1 vs rvs => ?_) (post_bind q)⟩
  refine ⟨p1, S1, E, hs1, he.mono x1.pre x1.tup, post_mono (fun es S2 p2 H2 x2 hs2 q2 zs rzs => ?_) (post_bind q1)⟩
  split at q2
  · rename_i hc
    have r1 := rvs.mono x2.pre x2.tup
    have e1 : gk a ks.length vs zs = vs ++ zs := by
      unfold gk
      rw [← r1.length, ← rzs.length, if_pos hc]
    show spM (gX X) ps.length mf (gk a ks.length vs zs) H2 Q E0
    rw [e1]
    unfold mCl at q2
    split at q2
    · rename_i hl
      refine ⟨by rw [← (r1.append rzs).length]; exact hl, p2, S2, ds ++ es, hs2, r1.append rzs, post_noX q2⟩
    · exact q2.elim
  · exact q2.elim
end
end M

namespace M
open PySem L2
section
variable {X : Cx} {W : XW}
/-! {k: v}, k a tuple -/
theorem dictN_one {P : Program} {w : World} {H : Hp} {h : Heap} {a : Addr} {k : NestedKey} {b : Addr} {v : V} {u : Value} (sm : (a == sysModules) = false) (hk : k.depth ≤ 8) (r : RelV v u) (dd : h.DictOfH (nestedKind P w) a [(k, b, u)]) : ObjOk P w H h a (DictN P w a [(k, b, v)]) := by
  obtain ⟨qo, es, ep, hq, h2, h3, h4, _, h5⟩ := dd
  have hz : 1 ≤ sizeLine := by decide
  refine ⟨⟨hz, sm, fun x hx => ?_, by simp, [(k, b, u)], qo, es, ep, .cons ⟨rfl, rfl, r⟩ .nil, hq, h2, h3, h4⟩, ⟨qo, hq⟩, fun h1 h2 x k => ?_⟩
  · rw [List.mem_singleton.mp hx]; exact hk
  · obtain ⟨a1, a2, a3, a4, ys', o', es', ep', b1, b2, b3, b4, b5⟩ := x
    exact ⟨a1, a2, a3, a4, ys', o', es', ep', b1, k _ b2, b3, b4, b5⟩
def QN (X : Cx) (c : Addr) (Q : VK) : List (V × V) → Hp → Prop := fun ps H2 => match ps with
  | [(x, y)] => H2 c = some (.dK []) ∧ ∃ key b, x = .ref b ∧ KeyN X H2 key b ∧ Q (.ref c) (upd H2 c (DictN X.prog X.w c [(key, b, y)]))
  | _ => False
theorem qn_one {c : Addr} {Q : VK} {ps : List (V × V)} {ws : List (Value × Value)} {H2 : Hp} (r : VV ps ws) (h : QN X c Q ps H2) : ∃ x y u1 u2, ws = [(u1, u2)] ∧ RelV x u1 ∧ RelV y u2 ∧ H2 c = some (.dK []) ∧ ∃ key b, x = .ref b ∧ KeyN X H2 key b ∧ Q (.ref c) (upd H2 c (DictN X.prog X.w c [(key, b, y)])) := by
  cases r with
  | nil => exact False.elim h
  | @cons a b l m r1 r2 =>
    cases r2 with
    | nil => exact ⟨a.1, a.2, b.1, b.2, rfl, r1.1, r1.2, h⟩
    | cons r3 r4 => exact False.elim h
theorem pe_disp1N {k v : Expr} {tk tv : TE} {pos : Pos} (hu : X.A.units + 64 < cLine) (hk : PE X k tk) (hv : PE X v tv)
    (hsh : (evalEachOpt [some k] X.env).zip ((evalEach [v] X.env).map fun v => do let x ← v; standAt pos; pure x) = (pairTrees [some k] [v] X.env pos).map fun p => (some p.1, p.2) := by rfl) (hne : (pairTrees [some k] [v] X.env pos).length = 1 := by rfl) :
    PE X (.Dict [some k] [v] pos) (fun σ H Q => ∀ p, H p = none → tk σ (upd H p (.dK [])) fun x H1 => tv σ H1 fun y H2 => H2 p = some (.dK []) ∧ ∃ key b, x = .ref b ∧ KeyN X H2 key b ∧ Q (.ref p) (upd H2 p (DictN X.prog X.w p [(key, b, y)]))) := by
  refine ⟨fun pins s σ H Q I q => ?_⟩
  have hn := I.hok.fresh (Nat.le_refl s.heap.objs.size)
  have I1 := I.laid (a := s.heap.objs.size) (o := .dK []) (h' := s.heap.push { cls := .type "dict", data := .dict #[] }) (t' := s.toks) (fun _ _ q => Heap.get?_push_of_some _ q) (Nat.le_refl _) (dk_empty s.heap I.big)
  have h0 : pairTrees [some k] [v] X.env pos ≠ [] := fun z => by rw [z] at hne; cases hne
  rw [arm_eval_Dict, hsh, dictDisplay_pairs _ h0 (by omega)]
  have hu' : (nestedKind X.prog X.w).room X.A := by
    show X.A.units + 8 < cLine
    omega
  have PP := pps_cons (pos := pos) hk hv (pps_nil (X := X) (pos := pos))
  refine wpAny_bind (wpAny_standAt (wpAny_bind (wpAny_subDictH (knd := nestedKind X.prog X.w) hu' (by omega) (thn (PP.run pins _ σ _ (QN X s.heap.objs.size Q) I1 (q _ hn)) fun ws s2 ⟨ps, H2, I2, rel, hq⟩ => ?_))))
  obtain ⟨x, y, u1, u2, ews, e1, e2, e, key, b, ex, hkn, q2⟩ := qn_one rel hq
  subst ews
  subst ex
  have eu : u1 = Value.ref b := e1
  subst eu
  have hat : NAt X H2 s.heap.objs.size [] := .inr ⟨rfl, .inl e⟩
  obtain ⟨sm, l, _, _, ys, pr, dd⟩ := hat.full I2
  have ey : ys = [] := List.length_eq_zero_iff.mp (pair_len pr).symm
  subst ey
  refine ⟨[(key, b, u2)], ⟨rfl, rfl, hkn.is I2, trivial⟩, dd, fun h' tk dd' hs => wpAny_pure ?_⟩
  have he : ∃ q, h'.get? s.heap.objs.size = some q := let ⟨q, _, _, hq, _⟩ := dd'; ⟨q, hq⟩
  have I3 := I2.write (x := s.heap.objs.size) (e := s.heap.objs.size) (t' := tk) (by rw [e]; exact True.intro) (.inl rfl) (fun c ob hc e => (hs.2 c hc).trans e) he (dictN_one sm hkn.1 e2 dd')
  exact ⟨.ref s.heap.objs.size, _, I3, rfl, q2⟩
def mDisp1N (mk mv : En → Sto → Rs D) : En → Sto → Rs D := fun E S => (mk E S).bind fun x S1 => (mv E S1).bind fun y S2 => match keyN x with
  | some k => .ok (.ref S2.length) (S2 ++ [.dn [(k, y)]])
  | none => .bad
theorem me_disp1N {k v : Expr} {mk mv : En → Sto → Rs D} {pos : Pos} (hu : X.A.units + 64 < cLine) (hk : ME X W k mk) (hv : ME X W v mv)
    (hsh : (evalEachOpt [some k] X.env).zip ((evalEach [v] X.env).map fun v => do let x ← v; standAt pos; pure x) = (pairTrees [some k] [v] X.env pos).map fun p => (some p.1, p.2) := by rfl) (hne : (pairTrees [some k] [v] X.env pos).length = 1 := by rfl) :
    ME X W (.Dict [some k] [v] pos) (mDisp1N mk mv) :=
  PE.imp (pe_disp1N hu hk hv hsh hne) fun σ H Q q => by
    obtain ⟨p, S, E, hs, he, q⟩ := q
    intro c hc
    have x0 : Ext (gX X) p H p (upd H c (.dK [])) := Ext.new hc
    have he0 := he.mono x0.pre x0.tup
    refine lE_step (hs.frame hc) he0 (post_mono (fun x S1 p1 H1 x1 hs1 q1 v rv => ?_) (post_base x0 (post_bindB q)))
    refine lE_step hs1 (he0.mono x1.pre x1.tup) (post_mono (fun y S2 p2 H2 x2 hs2 q2 u ru => ?_) (post_base (x0.trans x1) (post_bindB q1)))
    have hcp : c ∉ p := hs.notin hc
    have x12 := x1.trans x2
    obtain ⟨hc1, hH1⟩ := x12.frm c _ hcp upd_same (fun _ z => by cases z)
    split at q2
    · rename_i kk hkk
      obtain ⟨b, rfl, hkn, hkd⟩ := keyN_read (rv.mono x2.pre x2.tup) hkk
      refine ⟨hH1, kk, b, rfl, hkn, ?_⟩
      have hx : Ext (gX X) p H (p2 ++ [c]) (upd H2 c (DictN X.prog X.w c [(kk, b, u)])) := by
        have xx := x0.trans x12
        have k2 : Keep (gX X) H2 (upd H2 c (DictN X.prog X.w c [(kk, b, u)])) := Keep.set hH1 (.inl rfl)
        refine ⟨xx.pre.trans (Pre.add _ _), xx.tup.trans k2, fun b ob h1 h2 h3 => ?_, fun b ob u h2 => ?_⟩
        · obtain ⟨a1, a2⟩ := xx.frm b ob h1 h2 h3
          have hb : b ≠ c := ne_of_none h2 hc
          refine ⟨fun z => ?_, by rw [upd_ne hb]; exact a2⟩
          rcases List.mem_append.mp z with z | z
          · exact a1 z
          · exact hb (by simpa using z)
        · rw [upd_ne (ne_of_none h2 hc)]
          exact xx.frz _ _ _ h2
      have hsd := hs2.del hc1 hH1 rfl
      have kd : Keep (gX X) H2 (del H2 c) := Keep.del hH1 rfl
      have hs3 := hsd.alloc (a := c) (o := .dn [(kk, y)]) del_same ⟨[(kk, b, u)], rfl, RNs.of (.cons ⟨rfl, ru.mono (Pre.refl _) kd, by rw [hkd]; exact (rv.mono x2.pre x2.tup).mono (Pre.refl _) kd⟩ .nil)⟩
      have eH : upd (del H2 c) c (DictN X.prog X.w c [(kk, b, u)]) = upd H2 c (DictN X.prog X.w c [(kk, b, u)]) := by
        funext b
        by_cases hb : b = c
        · subst hb; rw [upd_same, upd_same]
        · rw [upd_ne hb, upd_ne hb, del_ne hb]
      have hs3' : RS (gX X) (p2 ++ [c]) (S2 ++ [.dn [(kk, y)]]) (upd H2 c (DictN X.prog X.w c [(kk, b, u)])) := by rw [← eH]; exact hs3
      exact q2 _ _ hx hs3' _ ⟨c, by rw [← hs2.len]; simp, rfl⟩
    · exact q2.elim
end
end M

namespace M
open PySem L2 PySem.Spec
section
variable {X : Cx} {W : XW} {pins : List (Addr × Obj)} {σ : L2.St} {H : Hp} {s : Shared}
/-! ### an exception that was caught is told from now on -/
theorem exC_ok {P : Program} {w : World} {h : Heap} {a : Addr} {oe : Obj} {vs : Array Value} {cls : Value} {d : Option Addr} (ha : h.get? a = some oe) (hz : Zc cls d oe) (hd : oe.data = .fields vs) : ObjOk P w H h a (ExC cls d a) :=
  ⟨⟨oe, vs, ha, hz, hd⟩, ⟨oe, ha⟩, fun _ _ x k => let ⟨o, v, e, z, f⟩ := x; ⟨o, v, k _ e, z, f⟩⟩
theorem inv_track (I : Inv X pins σ H s) {a : Addr} {oe : Obj} {vs : Array Value} {cls : Value} {d : Option Addr} (h0 : X.s_0.heap.get? a = none) (hn : H a = none) (ha : s.heap.get? a = some oe) (hz : Zc cls d oe) (hd : oe.data = .fields vs) (hL : a ≠ X.env.locals) (hp : ∀ p ∈ X.pn ++ pins, p.1 ≠ a) : Inv X pins σ (upd H a (ExC cls d a)) s where
  ok := I.ok
  os := I.os
  bare := I.bare
  base := ⟨I.base.keep, I.base.slot, fun b o e n hx => by
      rw [upd_ne (fun z => by rw [z, h0] at e; cases e)]; exact I.base.free b o e n hx, I.base.there,
    fun b xs e => by have q := I.base.tups b xs e; rw [upd_ne (ne_of_none q hn)]; exact q,
    fun b o u e => by have q := I.base.frzs b o u e; rw [upd_ne (ne_of_none q hn)]; exact q,
    fun b ps e => by obtain ⟨m, q⟩ := I.base.tbls b ps e; exact ⟨m, by rw [upd_ne (ne_of_none q hn)]; exact q⟩⟩
  loc := I.loc
  cell := I.cell
  free := by rw [upd_ne (Ne.symm hL)]; exact I.free
  freeC := fun x c e => by
    rw [upd_ne]
    · exact I.freeC x c e
    · intro z
      subst z
      obtain ⟨v, o, ho, hc⟩ := I.cell x c e
      rw [ha] at ho
      cases ho
      rw [hd] at hc
      cases hc
  pin := fun p q => by
    obtain ⟨e1, e2, e3⟩ := I.pin p q
    exact ⟨e1, by rw [upd_ne (hp p q)]; exact e2, e3⟩
  hok := HOk.laidN I.hok (fun _ _ z => z) hn (exC_ok ha hz hd)
  len := I.len
/-- try: body / except x as n: r = n, where the rest asks the exception -/
def wKeep (K : PySem.W.Frag) (c : Value) (i j nn : Nat) (Wout : WX) (Z : Ends) : WX := fun cls d σ H => ∃ b, PySem.W.exmOne K cls c = some b ∧
  (b = true → ∀ a, H a = none → σ.length = nn → Z.nx (((σ.set i (some (.ref a))).set j (some (.ref a))).set i none) (upd H a (ExC cls d a))) ∧ (b = false → Wout cls d σ H)
theorem ps_try_keep {x n r : Str} {c : Value} {i j : Nat} {body : List Stmt} {np rp vp ap pos pos' : Pos} {tb : WX → TS} {Wout : WX} (hs : X.stack = X.env :: X.outer) (hf : X.env.frame = some X.env.locals) (hex : X.ex = []) (hN : X.N.Nodup) (hi : X.N[i]? = some n) (hj : X.N[j]? = some r) (hln : X.env.kindOf n = some .local) (hlr : X.env.kindOf r = some .local) (hc : Names X x c) (tk : Takes X Wout)
    (hb : ∀ (V : WX) (pn : List (Addr × Obj)) (xe : Value → Shared → Prop), Takes (X.tr pn xe) V → PassesOwn (model X.prog X.w) X.A X.env xe → PSs (X.tr pn xe) body (tb V))
    (hsu : ∀ (a : Addr) (oe : Obj) (pn : List (Addr × Obj)), PSs (X.suite a ((a, oe) :: pn)) [.Assign [.Name r rp] (.Name n vp) ap] (fun Z σ H => ∃ v, σ[i]? = some (some v) ∧ Z.nx (σ.set j (some v)) H)) :
    PS X (.Try body [.ExceptHandler (some (.Name x np)) (some n) [.Assign [.Name r rp] (.Name n vp) ap] pos'] [] [] pos) (fun Z σ H => tb (wKeep X.K c i j X.N.length Wout Z) Z σ H) := by
  refine ⟨fun pins s σ H Z I hw => ?_⟩
  have ok := I.ok
  have fr0 : X.A.frames = some (X.env :: X.outer) := by rw [ok.frames, hs]
  refine wpAny_Try_except ?_
  refine wpAny_mono ((hb (wKeep X.K c i j X.N.length Wout Z) (X.pn ++ pins)
    (fun e s₁ => wpAny (model X.prog X.w) X.A (noteFrame e X.env) (fun _ s₂ => wpAny (model X.prog X.w) X.A (setFlight e none)
      (fun _ s₃ => wpAny (model X.prog X.w) X.A (handleBy e X.env [.ExceptHandler (some (.Name x np)) (some n) [.Assign [.Name r rp] (.Name n vp) ap] pos']) (SP X pins Z) X.xe s₃) X.xe s₂) X.xe s₁)
    (fun u s' xx => ?_) PassesOwn.looking).run [] s σ H Z (I.toTry _) hw) (fun f s1 done => ?_) (fun e s1 he => he)
  · obtain ⟨a, B, sI, pins', σ', H', cls, d, rfl, J', nb, up, sky, na, os, ag, b, hb1, hyes, hno⟩ := xx
    have J : Inv X pins σ' H' sI := J'.ofTry ok
    have sky2 : Sky B (X.env :: X.outer) a (Zc cls d) X.env.locals s'.heap := by rw [← hs]; exact sky
    show wpAny (model X.prog X.w) X.A (noteFrame (.ref a) X.env) _ _ _
    refine Sky.land Zc.steady fr0 hf sky2 fun g3 fl3 up3 => ?_
    have J3 : Inv X pins σ' H' { s' with heap := g3 } := J.landed nb fl3.1 (up.trans up3) os ag
    obtain ⟨oe3, vs3, he3, hz3, hd3⟩ := fl3.there
    have outFr : ∀ {hp : Heap} {o : Obj} {vs : Array Value}, hp.FunFrames B (X.env :: X.outer) → hp.get? a = some o → o.data = .fields vs → a ∉ frs (X.env :: X.outer) := fun {hp o vs} ff e dd m => by
      obtain ⟨_, o', e', q⟩ := ff.mem m
      rw [e] at e'
      cases e'
      exact q _ dd
    have nfr := outFr fl3.2.2.1 he3 hd3
    have nfr' : a ∉ frs X.stack := by rw [hs]; exact nfr
    have nL : a ≠ X.env.locals := fun z => nfr (List.mem_filterMap.mpr ⟨X.env, List.mem_cons_self, by rw [hf, z]⟩)
    have nF : a ∉ X.fs := fun m => by
      obtain ⟨e, me, q⟩ := List.mem_filterMap.mp m
      exact nfr (List.mem_filterMap.mpr ⟨e, List.mem_cons_of_mem _ me, q⟩)
    -- new since the entry
    have newI : ∀ o, sI.heap.get? a ≠ some o := fun o e => by
      have q := nb a o e nfr'
      rw [fl3.2.1] at q
      cases q
    have h0 : X.s_0.heap.get? a = none := by
      cases q : X.s_0.heap.get? a with
      | none => rfl
      | some o =>
        obtain ⟨o', e'⟩ := J.base.there a o q (by rw [hex]; simp)
        exact absurd e' (newI o')
    have hpin : ∀ p ∈ X.pn ++ pins, p.1 ≠ a := fun p q z => newI p.2 (by rw [← z]; exact (J.pin p q).1)
    have S3 := J3.suite he3 hd3 na nL nF
    refine wpAny_handleBy_cons (codeAny_handlers_test ?_) (by intro q; cases q)
    have LT : PySem.W.Looks (model X.prog X.w) g3 (typeOf (.ref a)) cls := fun A Q E s k q => wpAny_typeOf_ref (k _ _ he3) (by rw [hz3.1]; exact q)
    have LM := PySem.W.exm_one (M := model X.prog X.w) (J3.kIn) LT hb1
    have ask : ∀ {Q : Value → Shared → Prop} {E : Value → Shared → Prop}, Q c { s' with heap := g3 } → wpAny (model X.prog X.w) (X.A.mark (some (.ref a))) (eval (.Name x np) X.env) Q E { s' with heap := g3 } := fun {Q E} q => by
      obtain ⟨hg, hdbg, hm | ⟨hm, hv, hnn⟩⟩ := hc
      · exact ld_glob (X := X.suite a ((a, oe3) :: (X.pn ++ pins))) S3 hg hm q hdbg
      · exact ld_blt (X := X.suite a ((a, oe3) :: (X.pn ++ pins))) S3 hg hm hv q hnn hdbg
    refine ask (LM.here ?_)
    cases b with
    | true =>
      refine codeAny_handlers_suite_as (HandSPX.lands_againZ fl3 fun g4 fl4 up4 => ?_)
      have J4 : Inv X pins σ' H' { s' with heap := g4 } := J.landed nb fl4.1 ((up.trans up3).trans up4) os ag
      obtain ⟨oe4, vs4, he4, hz4, hd4⟩ := fl4.there
      have S4 := J4.suite he4 hd4 na nL nF
      refine store_ok (X := X.suite a ((a, oe4) :: (X.pn ++ pins))) (v := .ref a) S4 hN hi (.inl hln) rfl (fun s5 S5 => ?_) (.inr hln)
      have hiσ : i < σ'.length := by rw [J.len]; exact (List.getElem?_eq_some_iff.mp hi).1
      refine wpAny_mono ((hsu a oe4 (X.pn ++ pins)).run [] s5 _ H' { nx := fun σ6 H6 => σ6 = (σ'.set i (some (.ref a))).set j (some (.ref a)) ∧ H6 = H', rt := fun _ _ => False, bk := fun _ _ => False, ct := fun _ _ => False } S5 ⟨.ref a, by rw [List.getElem?_set_self hiσ], rfl, rfl⟩) (fun f s6 fin => ?_) (fun _ _ z => False.elim z)
      cases f with
      | next =>
        obtain ⟨σ6, H6, S6, e6, e7⟩ := fin
        rw [e6, e7] at S6
        obtain ⟨g1, g2, g3', g4', g5⟩ := S6.pin (a, oe4) (List.mem_append_left _ List.mem_cons_self)
        have J6 := S6.unsuite ok
        have J6' : L2.Inv X ((a, oe4) :: pins) _ H' s6 := J6.pins_of fun p hp => by
          rcases List.mem_cons.mp hp with rfl | hp
          · exact ⟨g1, g2, g3', g4', g5⟩
          · exact J6.pin p (List.mem_append_right _ hp)
        refine gone_ok J6' hN hi hln fun s7 J7 => ?_
        obtain ⟨k1, k2, _⟩ := J7.pin (a, oe4) (List.mem_append_right _ List.mem_cons_self)
        have J8 : L2.Inv X pins _ H' s7 := J7.pins_of fun p hp => J7.pin p (List.mem_append_right _ (List.mem_cons_of_mem _ hp))
        exact ⟨_, _, inv_track J8 h0 na k1 hz4 hd4 nL hpin, hyes rfl a na J.len⟩
      | brk => obtain ⟨_, _, _, q⟩ := fin; exact q.elim
      | cont => obtain ⟨_, _, _, q⟩ := fin; exact q.elim
      | ret u => obtain ⟨_, _, _, _, _, q⟩ := fin; exact q.elim
    | false =>
      show wpAny _ X.A (handleBy (.ref a) X.env []) _ _ _
      refine wpAny_handleBy_nil ?_
      obtain ⟨k1, k2, k3, oe, vs, T, oT, ts', he, hz, hd, h1, hr⟩ := id fl3
      unfold PySem.passOn
      refine wpAny_bind (wpAny_field he hd h1 ?_)
      rw [if_neg (show ¬ ((Value.ref T == Value.none) = true) from by simp)]
      have on : wpAny (model X.prog X.w) X.A (setFlight (.ref a) X.env.frame) (fun _ s4 => wpAny (model X.prog X.w) X.A (throw (.ref a) : Sem Flow) (SP X pins Z) X.xe s4) X.xe { s' with heap := g3 } := by
        rw [hf]
        exact HandSPX.setFlight_upZ fl3 fun g4 hh4 up4 => wpAny_throw (tk _ _ ⟨a, B, sI, pins, σ', H', cls, d, rfl, J, nb, (up.trans up3).trans up4, .inr (.inr (by rw [hs]; exact hh4)), na, os, ag, hno rfl⟩)
      first
        | exact wpAny_bind (wpAny_pure (wpAny_bind on))
        | exact wpAny_bind on
  · cases f with
    | next =>
      obtain ⟨σ', H', J', q⟩ := done
      exact wpAny_execs_nil ⟨σ', H', J'.ofTry ok, q⟩
    | brk => obtain ⟨σ', H', J', q⟩ := done; exact ⟨σ', H', J'.ofTry ok, q⟩
    | cont => obtain ⟨σ', H', J', q⟩ := done; exact ⟨σ', H', J'.ofTry ok, q⟩
    | ret u => obtain ⟨v, σ', H', J', r, q⟩ := done; exact ⟨v, σ', H', J'.ofTry ok, r, q⟩
/-! ### isinstance of it -/
def rIsX (K : PySem.W.Frag) : List V → Hp → VK → Prop := fun xs H Q => ∃ (a D : Addr) (c : V) (cv : Value) (b : Bool), xs = [.ref a, c] ∧ H a = some (ExC (.ref D) none a) ∧ ExcC K D ∧ (∀ u, RelV c u → u = cv) ∧ PySem.W.kitOne K (.ref D) cv = some b ∧ Q (.bl b) H
theorem call_isX : CallR X (.builtin "isinstance") (rIsX X.K) := by
  intro pins s σ H xs us Q I r h
  obtain ⟨a, D, c, cv, b, rfl, hH, C, hcv, e, q⟩ := h
  cases r with
  | cons rx rr =>
    cases rr with
    | cons rt rr =>
      cases rr
      cases rx
      have ec := hcv _ rt
      subst ec
      obtain ⟨⟨oe, vs, hget, hz, hv⟩, _⟩ := I.hok a _ hH
      have J : PySem.W.InstAt s.heap a oe D none := by
        obtain ⟨oc, od, oda, osl⟩ := oe
        obtain ⟨h1, h2⟩ := hz
        dsimp only at h1 h2 hv
        subst h1 h2 hv
        exact ⟨hget, rfl, rfl, trivial⟩
      exact PySem.W.kia_one (PySem.W.handS_kitx_exc C.hg C.hk C.hs C.hd C.ha C.hn C.ht C.hm) I.kIn J e (fun z => nomatch z) fun tk => ⟨.bl b, H, I.kept (t' := tk) fun _ _ z => z, rfl, q⟩
end
end M

namespace M
open PySem L2 PySem.Spec
/-! ### defs that may raise -/
/-- exceptions without fields, by name -/
def wE (K : KX) (E : XK) : XW := fun c fs _ _ H => fs = [] ∧ E (.ref (He.ga K.K c)) none H
def spX (K : KX) (n : Nat) (f : List D → Sto → Rs D) : Sp := fun vs H Q E => vs.length = n ∧ ∃ p S ds, RS K p S H ∧ RDs K p H ds vs ∧ post K (wE K E) p H (f ds S) (kE K Q)
structure DefX (P : Program) (w : World) (K : PySem.W.Frag) (mg : Str → Option Value) (base : Heap) (k : Nat) (x : Str) (n : Nat) (mf : List D → Sto → Rs D) : Prop where
  ex : ∃ (f : Addr) (fd : FuncData) (ps : List Str), FnOk P w K mg base (L2.CX P w) k f fd ps (spX ⟨K, P, w⟩ n mf) ∧ mg x = some (.ref f) ∧ PySem.W.keepIn K (.ref f) = true ∧ Binds K fd ps []
section
variable {P : Program} {w : World} {K : PySem.W.Frag} {mg : Str → Option Value} {base : Heap}
theorem defAtX {x : Str} {st : Stmt} {N ps : List Str} {k : Nat} {mb : En → Sto → Rs Fl} (F : ∃ fd, FunD K x x (defArgs st) (defBody st) (defScope st) [] [] (He.ga K x) fd) (hm : mg x = some (.ref (He.ga K x))) (S : FnScope N ps (defScope st))
    (hbd : ∀ (kV doc pm : Value) (an : Option Addr) (cdv ct : Value) (us : List Value), us.length = ps.length → bindArgs (PySem.W.fnOf x x (defArgs st) (defBody st) (defScope st) .none kV doc pm an cdv ct) ⟨us, []⟩ = pure (ps.zip us))
    (hb : ∀ (A : Around) (outer : List Env) (s : Shared) (H : Hp) (E : XK), Room k (A.deeper (PyProof.Rows.envOfC x (defScope st) s.heap.objs.size (He.ga K x) (.ref (He.codeOf K (x, none))))) → MSs (cxOf (L2.CX P w) P w K mg base N x (defScope st) (He.ga K x) (.ref (He.codeOf K (x, none))) A outer s H E) (wE ⟨K, P, w⟩ E) (defBody st) mb) :
    DefX P w K mg base (k + 1) x ps.length (mDef N.length mb) := by
  obtain ⟨fd, F⟩ := F
  have hbn := F.bindsN hbd
  have hkp := F.kp
  refine ⟨_, fd, ps, ?_, hm, hkp, hbn⟩
  obtain ⟨oc, od, dV, kV, doc, pm, an, cdv, ct, osl, rfl, lk, hcd, _, _⟩ := F.ex
  obtain ⟨c, rfl⟩ := He.codeIn_ref hcd
  have e : He.codeOf K (x, none) = c := He.codeOf_eq (p := (x, none)) lk rfl
  rw [e] at hb
  refine fn_of lk hcd S (fun vs H Q E h => h.1) (fun A outer s H vs Q E hr h => ?_)
  obtain ⟨hl, p, S', ds, hs, rd, q⟩ := h
  refine ⟨_, hb A outer s H E hr, p, S', startE N.length ds, hs, RE.start N rd, post_mono (fun fl S1 p1 H1 x1 hs1 q1 => ?_) (post_bindB q)⟩
  cases fl with
  | nx E1 => exact fun σ' _ => gc_read (d := .non) (v := .non) hs x1 hs1 rfl q1
  | rt d => exact fun v rv => gc_read hs x1 hs1 rv q1
  | bk E1 => exact q1.elim
  | ct E1 => exact q1.elim
end
section
variable {X : Cx} {W : XW}
/-- what leaves a def is taken -/
theorem takes_cx {P : Program} {w : World} {K : PySem.W.Frag} {mg : Str → Option Value} {base : Heap} {N : List Str} {q : Str} {sc : Scope} {f : Addr} {cd : Value} {A : Around} {outer : List Env} {s : Shared} {H : Hp} {E : XK} : Takes (cxOf (L2.CX P w) P w K mg base N q sc f cd A outer s H E) (fun cls d _ H => E cls d H) := takes_of rfl rfl rfl rfl
theorem takes_lam {A : Around} {outer : List Env} {s : Shared} {H : Hp} {E : XK} {scope : Scope} {f c' : Addr} : Takes (LamX.lamCx X A outer s H E scope f c') (fun cls d _ H => E cls d H) := takes_of rfl rfl rfl rfl
/-! raise x('..') -/
def sExc (c : Str) : En → Sto → Rs Fl := fun _ S => .exc c [] S
theorem ms_raise {x m : Str} {j : Nat} {p p2 pos pos' : Pos} {E : XK} (hc : X.calm = true) (tk : Takes X (fun cls d _ H => E cls d H)) (q : PySem.W.excIn X.K (He.ga X.K x) He.veBase "ValueError.__new__" = true ∧ PySem.W.keepIn X.K (.ref (He.ga X.K x)) = true ∧ PySem.W.subIn X.K (.ref (He.ga X.K x)) (.type "BaseException") = some true ∧ PySem.W.typeIn X.K (.ref (He.ga X.K x)) = some (.type "type"))
    (gC : X.mg x = some (.ref (He.ga X.K x))) (hg : Gl X x) (hdb : (x == ("__debug__" : Str)) = false := by decide) :
    MS X (wE (gX X) E) (.Raise (some (.Call (.Name x p) [.Constant (.str m) j p2] [] pos)) none pos') (sExc x) :=
  PS.imp (ps_raise hc tk (pmk_own PySem.F.excBase_ValueError q.1 gC q.2.1 (raises_own q.2.2.1 q.2.2.2) hg hdb)) fun Z σ H h => by
    obtain ⟨p, S, E', hs, he, h⟩ := h
    exact (h p H (Ext.refl _ _) hs).2
/-! a call that may raise -/
def mClX (n : Nat) (f : List D → Sto → Rs D) : List D → Sto → Rs D := fun ds S => if ds.length = n then f ds S else .bad
theorem me_clX {k j n : Nat} {mf : List D → Sto → Rs D} {x : Str} {p pos : Pos} {e : Expr} {es : List Expr} {t : En → Sto → Rs (List D)} {E : XK} (F : DefX X.prog X.w X.K X.mg X.base k x n mf) (hr : Room j X.A) (hk : k ≤ j) (hg : Gl X x) (tk : Takes X (fun cls d _ H => E cls d H))
    (ha : MA X (wE (gX X) E) (e :: es) t) (hdb : (x == ("__debug__" : Str)) = false := by decide) (he : starEach (e :: es) X.env = (false, eval e X.env) :: starEach es X.env := by rfl) (hpl : (backTo pos (starEach es X.env)).any (·.1) = false := by rfl) :
    ME X (wE (gX X) E) (.Call (.Name x p) (e :: es) [] pos) (mN (mClX n mf) t) := by
  obtain ⟨f, fd, ps, F1, hm, hkp, hb⟩ := F.ex
  refine PE.imp (pe_call F1 (hr.mono hk) hg hm hkp hb .nil (passes_call tk fun _ _ _ _ h => h) ha hdb he hpl) fun σ H Q q => ?_
  obtain ⟨p, S, E', hs, he, q⟩ := q
  refine ⟨p, S, E', hs, he, post_mono (fun ds S1 p1 H1 x1 hs1 q1 vs rvs => ?_) (post_bind q)⟩
  show spX (gX X) n mf (vs ++ []) H1 Q E
  rw [List.append_nil]
  unfold mClX at q1
  split at q1
  · rename_i hl
    exact ⟨by rw [← rvs.length]; exact hl, p1, S1, ds, hs1, rvs, q1⟩
  · exact q1.elim
end
end M

namespace M
open PySem L2 PySem.Spec
/-! ### what is told, or how it is refused: x(lambda: body) -/
def eOk (N : Nat) (d : D) : En := ((List.replicate N none).set 1 (some .non)).set 2 (some d)
def eEx (N n : Nat) : En := (List.replicate N none).set 1 (some (.ref n))
def mHeard (okc : Str → Bool) (N : Nat) (rest : En → Sto → Rs Fl) (r : Rs D) (n : Nat) : Rs D := match r with
  | .ok d S1 => (noX (rest (eOk N d) S1)).bind (endD n)
  | .exc c fs S1 => (match fs with
    | [] => if okc c = true then (noX (rest (eEx N S1.length) (S1 ++ [.ex c []]))).bind (endD n) else .bad
    | _ :: _ => .bad)
  | .bad => .bad
/-- the def gets a lambda f and calls it; tl: how the lambda reads -/
def Acts (Z : Cx) (a : Str) (f c' : Addr) (q : Str) (tl : XK → Hp → VK → Prop) : Prop :=
  ∀ (V : WX) (pn : List (Addr × Obj)) (xe : Value → Shared → Prop) (E : XK) (p1 p2 : Pos), Takes (Z.tr pn xe) V → (∀ cls d σ' H', E cls d H' → V cls d σ' H') →
    PE (Z.tr pn xe) (.Call (.Name a p1) [] [] p2) (fun σZ HZ Q => σZ[0]? = some (some (.ref f)) ∧ HZ c' = some (LamX.CodeO c' q) ∧ tl E HZ Q)
structure DefH (P : Program) (w : World) (K : PySem.W.Frag) (mg : Str → Option Value) (base : Heap) (k : Nat) (x : Str) (N : Nat) (okc : Str → Bool) (rest : En → Sto → Rs Fl) : Prop where
  ex : ∃ (g : Addr) (a : Str) (Ng : List Str) (params : Arguments) (body : List Stmt) (scope : Scope) (dV kV doc pm cdv ct oc : Value) (an od : Option Addr) (osl : Array (Option Value)),
    K.lookup g = some ⟨oc, od, .func (PySem.W.fnOf x x params body scope dV kV doc pm an cdv ct), osl⟩ ∧ PySem.W.codeIn K cdv x = true ∧ mg x = some (.ref g) ∧ PySem.W.keepIn K (.ref g) = true ∧
    Binds K (PySem.W.fnOf x x params body scope dV kV doc pm an cdv ct) [a] [] ∧ FnScope Ng [a] scope ∧ Ng[0]? = some a ∧ Vis scope a ∧ (a == ("__debug__" : Str)) = false ∧ (a == ("__classdict__" : Str)) = false ∧ Ng.length = N ∧
    ∀ (A : Around) (outer : List Env) (s : Shared) (H : Hp) (f c' : Addr) (q : Str) (tl : XK → Hp → VK → Prop), Room k (A.deeper (PyProof.Rows.envOfC x scope s.heap.objs.size g cdv)) → Acts (cxOf CX0 P w K mg base Ng x scope g cdv A outer s H E0) a f c' q tl →
      ∀ (p : List Addr) (S : Sto) (r : Rs D) (W : XW) (Q : VK), RS ⟨K, P, w⟩ p S H → H c' = some (LamX.CodeO c' q) →
      (∀ p' H', Ext ⟨K, P, w⟩ p H p' H' → RS ⟨K, P, w⟩ p' S H' → ∀ (E : XK) (Q' : VK), post ⟨K, P, w⟩ (wE ⟨K, P, w⟩ E) p' H' r (kE ⟨K, P, w⟩ Q') → tl E H' Q') →
      post ⟨K, P, w⟩ W p H (mHeard okc N rest r S.length) (kE ⟨K, P, w⟩ Q) →
      ∃ t, PSs (cxOf CX0 P w K mg base Ng x scope g cdv A outer s H E0) body t ∧ t { nx := fun _ H' => Q .non H', rt := Q } (L2.start Ng [.ref f]) H
section
variable {P : Program} {w : World} {K : PySem.W.Frag} {mg : Str → Option Value} {base : Heap}
theorem get_eOk {N i : Nat} {d d' : D} (h : (eOk N d)[i]? = some (some d')) : (i = 1 ∧ d' = .non) ∨ (i = 2 ∧ d' = d) := by
  unfold eOk at h
  by_cases h2 : 2 = i
  · subst h2
    rw [List.getElem?_set_self'] at h
    cases hq : ((List.replicate N (none : Option D)).set 1 (some .non))[2]? with
    | none => rw [hq] at h; cases h
    | some z => rw [hq] at h; cases h; exact .inr ⟨rfl, rfl⟩
  · rw [List.getElem?_set_ne h2] at h
    by_cases h1 : 1 = i
    · subst h1
      rw [List.getElem?_set_self'] at h
      cases hq : (List.replicate N (none : Option D))[1]? with
      | none => rw [hq] at h; cases h
      | some z => rw [hq] at h; cases h; exact .inl ⟨rfl, rfl⟩
    · rw [List.getElem?_set_ne h1, List.getElem?_replicate] at h
      split at h <;> cases h
theorem get_eEx {N i n : Nat} {d' : D} (h : (eEx N n)[i]? = some (some d')) : i = 1 ∧ d' = .ref n ∧ 1 < N := by
  unfold eEx at h
  by_cases h1 : 1 = i
  · subst h1
    rw [List.getElem?_set_self'] at h
    cases hq : (List.replicate N (none : Option D))[1]? with
    | none => rw [hq] at h; cases h
    | some z =>
      rw [hq] at h
      cases h
      refine ⟨rfl, rfl, ?_⟩
      have := (List.getElem?_eq_some_iff.mp hq).1
      simpa using this
  · rw [List.getElem?_set_ne h1, List.getElem?_replicate] at h
    split at h <;> cases h
theorem heard_ok {x a : Str} {st s1 : Stmt} {restS : List Stmt} {Ng : List Str} {k : Nat} {okc : Str → Bool} {rest : En → Sto → Rs Fl} {np rp vp ap fp dp cp ap2 hp tp : Pos} {le : Str}
    (F : ∃ fd, FunD K x x (defArgs st) (defBody st) (defScope st) [] [] (He.ga K x) fd) (hm : mg x = some (.ref (He.ga K x))) (Sg : FnScope Ng [a] (defScope st))
    (hbd : ∀ (kV doc pm : Value) (an : Option Addr) (cdv ct : Value) (us : List Value), us.length = [a].length → bindArgs (PySem.W.fnOf x x (defArgs st) (defBody st) (defScope st) .none kV doc pm an cdv ct) ⟨us, []⟩ = pure ([a].zip us))
    (n0 : Ng[0]? = some a) (n1 : Ng[1]? = some ("refused" : Str)) (n2 : Ng[2]? = some ("found" : Str)) (n3 : Ng[3]? = some ("e" : Str)) (hva : Vis (defScope st) a) (hda : (a == ("__debug__" : Str)) = false) (hdc : (a == ("__classdict__" : Str)) = false)
    (l1 : (defScope st).names.lookup ("refused" : Str) = some .local) (l2 : (defScope st).names.lookup ("found" : Str) = some .local) (l3 : (defScope st).names.lookup ("e" : Str) = some .local) (lg : (defScope st).names.lookup le = some .globalImplicit) (hle : mg le = some (.ref (He.ga K le))) (hld : (le == ("__debug__" : Str)) = false)
    (hok : ∀ c, okc c = true → PySem.W.exmOne K (.ref (He.ga K c)) (.ref (He.ga K le)) = some true)
    (hbody : defBody st = s1 :: .Try [.Assign [.Name "found" fp] (.Call (.Name a dp) [] [] cp) ap2] [.ExceptHandler (some (.Name le np)) (some "e") [.Assign [.Name "refused" rp] (.Name "e" vp) ap] hp] [] [] tp :: restS)
    (h1 : ∀ (A : Around) (outer : List Env) (s : Shared) (H : Hp), Room k (A.deeper (PyProof.Rows.envOfC x (defScope st) s.heap.objs.size (He.ga K x) (.ref (He.codeOf K (x, none))))) → MS (cxOf CX0 P w K mg base Ng x (defScope st) (He.ga K x) (.ref (He.codeOf K (x, none))) A outer s H E0).nox W0 s1 (sPar 1 2 (aCons (mC .non) (aCons (mC .non) aNil))))
    (h3 : ∀ (A : Around) (outer : List Env) (s : Shared) (H : Hp), Room k (A.deeper (PyProof.Rows.envOfC x (defScope st) s.heap.objs.size (He.ga K x) (.ref (He.codeOf K (x, none))))) → MSs (cxOf CX0 P w K mg base Ng x (defScope st) (He.ga K x) (.ref (He.codeOf K (x, none))) A outer s H E0).nox W0 restS rest)
    (hsw : ∀ Z : Cx, swapsWith (.Call (.Name a dp) [] [] cp) (some (.Name "found" fp)) ap2.line Z.env = pure false) (hsw2 : ∀ Z : Cx, swapsWith (.Name "e" vp) (some (.Name "refused" rp)) ap.line Z.env = pure false) :
    DefH P w K mg base k x Ng.length okc rest := by
  obtain ⟨fd, F⟩ := F
  have hbn := F.bindsN hbd
  have hkp := F.kp
  obtain ⟨oc, od, dV, kV, doc, pm, an, cdv, ct, osl, rfl, lk, hcd, _, _⟩ := F.ex
  obtain ⟨c, rfl⟩ := He.codeIn_ref hcd
  have ec : He.codeOf K (x, none) = c := He.codeOf_eq (p := (x, none)) lk rfl
  rw [ec] at h1 h3
  refine ⟨_, a, Ng, _, _, _, _, _, _, _, _, _, _, _, _, _, lk, hcd, hm, hkp, hbn, Sg, n0, hva, hda, hdc, rfl, fun A outer s H f c' q tl hr act p S r W Q hs hco htl hq => ?_⟩
  have nd := Sg.nd
  let Z : Cx := cxOf CX0 P w K mg base Ng x (defScope st) (He.ga K x) (.ref c) A outer s H E0
  have hT := ps_try_keep (X := Z.nox) (x := le) (n := "e") (r := "refused") (c := .ref (He.ga K le)) (i := 3) (j := 1) (np := np) (rp := rp) (vp := vp) (ap := ap) (pos := tp) (pos' := hp) (Wout := fun _ _ _ _ => False)
    (body := [.Assign [.Name "found" fp] (.Call (.Name a dp) [] [] cp) ap2])
    (tb := fun V D σ H => ∃ Ech : XK, (∀ cls d σ' H', Ech cls d H' → V cls d σ' H') ∧ σ[0]? = some (some (.ref f)) ∧ H c' = some (LamX.CodeO c' q) ∧ tl Ech H (fun v H' => D.nx (σ.set 2 (some v)) H'))
    rfl rfl rfl nd n3 n1 l3 l1 ⟨lg, hld, .inl hle⟩ LamX.takes0 (fun V pn xe tk _ => pss_one ⟨fun pins s' σ H' D I h' => by
      obtain ⟨Ech, hW, g1, g2, g3⟩ := h'
      exact (ps_set (pos' := fp) (pos := ap2) nd n2 (.inl l2) (act V pn xe Ech dp cp tk hW) (hsw _) (.inr l2)).run pins s' σ H' D I ⟨g1, g2, g3⟩⟩)
    (fun a' oe pn => pss_one (PS.imp (ps_set (pos' := rp) (pos := ap) nd n1 (.inl l1) (pe_var (pos := vp) (i := 3) n3 (.inl l3) (by decide) (by decide)) (hsw2 _) (.inr l1)) fun D σ H h => h))
  rw [hbody]
  refine ⟨_, PSs.nox (pss_cons (h1 A outer s H hr) (pss_cons hT (h3 A outer s H hr))), p, S, startE Ng.length [.raw (.ref f)], hs, RE.start Ng ⟨.ref f, [], rfl, rfl, rfl⟩, ?_⟩
  have hsp : sPar 1 2 (aCons (mC .non) (aCons (mC .non) aNil)) (startE Ng.length [.raw (.ref f)]) S = .ok (.nx (((startE Ng.length [.raw (.ref f)]).set 1 (some .non)).set 2 (some .non))) S := rfl
  rw [hsp]
  intro p1 H1 x1 hs1 σ1 he1
  have hl1 : σ1.length = Ng.length := by
    rw [← he1.len, List.length_set, List.length_set]
    unfold startE
    have : 1 ≤ Ng.length := (List.getElem?_eq_some_iff.mp n0).1
    simp; omega
  have hz0 : σ1[0]? = some (some (.ref f)) := by
    obtain ⟨v, e, rv⟩ := he1.get 0 (.raw (.ref f)) (by
      rw [List.getElem?_set_ne (by decide), List.getElem?_set_ne (by decide)]
      rfl)
    cases (show v = V.ref f from rv)
    exact e
  refine ⟨fun cls d H2 => ∀ σ', wKeep K (.ref (He.ga K le)) 3 1 Ng.length (fun _ _ _ _ => False) _ cls d σ' H2, fun cls d σ' H' h => h σ', hz0, x1.tup.cod _ _ hco, htl p1 H1 x1 hs1 _ _ ?_⟩
  -- behind the rest
  have rest_ok : ∀ (E2 : En) (S2 : Sto) (p2 : List Addr) (H2 : Hp) (σ2 : L2.St), Ext ⟨K, P, w⟩ p H p2 H2 → RS ⟨K, P, w⟩ p2 S2 H2 → RE ⟨K, P, w⟩ p2 H2 E2 σ2 → post ⟨K, P, w⟩ W p H ((noX (rest E2 S2)).bind (endD S.length)) (kE ⟨K, P, w⟩ Q) →
      lS ⟨K, P, w⟩ W0 rest { nx := fun _ H' => Q .non H', rt := Q, bk := fun _ _ => False, ct := fun _ _ => False } σ2 H2 := fun E2 S2 p2 H2 σ2 x2 hs2 he2 q2 => by
    refine ⟨p2, S2, E2, hs2, he2, post_mono (fun fl S3 p3 H3 x3 hs3 q3 => ?_) (post_noX (post_base x2 (post_bindB q2)))⟩
    cases fl with
    | nx E1 => exact fun σ' _ => gc_read (d := .non) (v := .non) hs (x2.trans x3) hs3 rfl q3
    | rt d => exact fun v rv => gc_read hs (x2.trans x3) hs3 rv q3
    | bk E1 => exact q3.elim
    | ct E1 => exact q3.elim
  cases r with
  | bad => exact hq.elim
  | ok d S1 =>
    intro p2 H2 x2 hs2 v rv
    refine rest_ok (eOk Ng.length d) S1 p2 H2 _ (x1.trans x2) hs2 ?_ hq
    have he2 := (he1.mono x2.pre x2.tup).set (i := 2) rv
    refine he2.weak ?_ fun i d' hi => ?_
    · unfold eOk startE
      have : 1 ≤ Ng.length := (List.getElem?_eq_some_iff.mp n0).1
      simp; omega
    · have hlen : (startE Ng.length [.raw (.ref f)]).length = Ng.length := by
        unfold startE
        have : 1 ≤ Ng.length := (List.getElem?_eq_some_iff.mp n0).1
        simp; omega
      have w2 : 2 < Ng.length := (List.getElem?_eq_some_iff.mp n2).1
      rcases get_eOk hi with ⟨rfl, rfl⟩ | ⟨rfl, rfl⟩
      · rw [List.getElem?_set_ne (by decide), List.getElem?_set_ne (by decide), List.getElem?_set_self (by rw [hlen]; omega)]
      · rw [List.getElem?_set_self (by rw [List.length_set, List.length_set, hlen]; exact w2)]
  | exc cc fs S1 =>
    intro p2 H2 x2 hs2
    cases fs with
    | cons _ _ => exact hq.elim
    | nil =>
      have hq' : post ⟨K, P, w⟩ W p H (if okc cc = true then (noX (rest (eEx Ng.length S1.length) (S1 ++ [.ex cc []]))).bind (endD S.length) else .bad) (kE ⟨K, P, w⟩ Q) := hq
      split at hq'
      · rename_i hcc
        refine ⟨rfl, fun σ' => ⟨true, hok cc hcc, fun _ b hb hl => ?_, fun z => by cases z⟩⟩
        have hs3 := hs2.alloc (a := b) (o := .ex cc []) (x := ExC (.ref (He.ga K cc)) none b) hb ⟨none, rfl, .inl ⟨rfl, rfl⟩⟩
        refine rest_ok (eEx Ng.length S1.length) (S1 ++ [.ex cc []]) (p2 ++ [b]) _ _ ((x1.trans x2).trans (Ext.alloc hb)) hs3 ⟨?_, fun i d' hi => ?_⟩ hq'
        · unfold eEx
          simp [hl]
        · obtain ⟨rfl, rfl, hN⟩ := get_eEx hi
          refine ⟨.ref b, ?_, b, ?_, rfl⟩
          · rw [List.getElem?_set_ne (by decide), List.getElem?_set_self (by rw [List.length_set, hl]; exact hN)]
          · rw [← hs2.len]; simp
      · exact hq'.elim
end
end M

namespace M
open PySem L2 PySem.Spec
section
variable {X : Cx} {W : XW}
def mLam (P : Addr) (q : Str) (ti : Nat) (okc : Str → Bool) (N : Nat) (rest : En → Sto → Rs Fl) (mb : En → Sto → Rs D) : En → Sto → Rs D := fun E S => match S[ti]? with
  | some (.tb P' q') => if P' = P ∧ q' = q then mHeard okc N rest (mb E S) S.length else .bad
  | _ => .bad
/-- a table of the store is told by its address -/
theorem tab_one {p : List Addr} {S : Sto} {H : Hp} {ti : Nat} {P : Addr} {q : Str} (hs : RS (gX X) p S H) (ht : S[ti]? = some (.tb P q)) : ∀ x ∈ tabsOf S, x.1 = P → x.2 = q := fun x hx ex => by
  obtain ⟨o, ho, e⟩ := List.mem_filterMap.mp hx
  obtain ⟨m, hm, em⟩ := List.getElem_of_mem ho
  have eS : S[m]? = some o := by rw [← em]; simp [hm]
  cases o with
  | tb P2 q2 =>
    cases e
    obtain ⟨a, ea⟩ := hs.lt eS
    obtain ⟨y, _, rfl, _⟩ := hs.get m a _ ea eS
    obtain ⟨b, eb⟩ := hs.lt ht
    obtain ⟨z, _, rfl, _⟩ := hs.get ti b _ eb ht
    have eab : a = b := ex
    subst eab
    obtain ⟨g1, q1⟩ := List.getElem?_eq_some_iff.mp ea
    obtain ⟨g2, q2'⟩ := List.getElem?_eq_some_iff.mp eb
    have : m = ti := (List.getElem_inj hs.nd).mp (q1.trans q2'.symm)
    subst this
    rw [ht] at eS
    cases eS
    rfl
  | _ => cases e
theorem me_heard {x : Str} {k N ti : Nat} {P c : Addr} {okc : Str → Bool} {rest : En → Sto → Rs Fl} {params : Arguments} {body : Expr} {scope : Scope} {mb : En → Sto → Rs D} {p lpos pos : Pos} (D : DefH X.prog X.w X.K X.mg X.base (k + 1) x N okc rest) (hg : Gl X x) (TB : LamX.TabB X.base X.mg c P) (hcode : X.env.code = .ref c) (hr : Room (k + 2) X.A)
    (L : LamX.LamS X.env.scope scope) (hdef : defaultsOf params X.env = ([], [])) (hbind : ∀ (q : Str) (cl : List (Str × Addr)) (pm cv ctv : Value), bindArgs (PySem.W.kla_fn "<lambda>" q params body scope cl pm cv ctv) ⟨[], []⟩ = pure [])
    (hbody : ∀ (A : Around) (outer : List Env) (s : Shared) (H : Hp) (E : XK) (f c' : Addr), Room k (A.deeper (LamX.lamEnv X scope s.heap.objs.size f c')) → ME (LamX.lamCx X A outer s H E scope f c') (wE (gX X) E) body mb)
    (hdb : (x == ("__debug__" : Str)) = false := by decide) :
    ME X W (.Call (.Name x p) [.Lambda params body scope lpos] [] pos) (mLam P (X.env.qual ++ "<lambda>") ti okc N rest mb) := by
  obtain ⟨g, a, Ng, pg, bg, sg, dV, kV, doc, pm, cdv, ct, oc, an, od, osl, lk, hcd, hm, hkp, hb, Sg, n0, hva, hda, hdc, hN, run⟩ := D.ex
  refine ⟨fun pins s σ H Q I q => ?_⟩
  obtain ⟨pp, S, E, hs, hE, q⟩ := q
  unfold mLam at q
  split at q
  · rename_i P' q' ht
    split at q
    · rename_i hPq
      obtain ⟨rfl, rfl⟩ := hPq
      have hmT : (P', X.env.qual ++ "<lambda>") ∈ tabsOf S := List.mem_filterMap.mpr ⟨_, List.mem_of_getElem? ht, rfl⟩
      refine wpAny_Call_Name_kw (ld_glob I hg hm ?_ hdb)
      refine PySem.W.callWith_K (h₀ := X.base) I.ok.mod.kin hkp ?_ (by rfl) (by rfl)
      show wpAny _ _ (spliced ((false, eval (.Lambda params body scope lpos) X.env) :: backTo pos (starEach [] X.env))) _ _ s
      refine Calls.spliced_cons (LamX.lam_make2 I TB hcode hmT (tab_one hs ht) (tabs_of hs) hdef (L.has I.ok) fun f c' pm' ctv H1 s' I1 eN T1 hf hfn hfr hco => ?_)
      refine Calls.spliced_nil ⟨I1.kIn, ?_⟩
      obtain ⟨hs1, x1⟩ := lam_rs hs eN T1
      have hE1 := hE.mono x1.pre x1.tup
      have rc : codeAny (model X.prog X.w) X.A (.call (.ref g) ⟨[.ref f], []⟩) (CR CX0 X.stack X.prog X.w H1 s' Q E0) s' := by
        refine LamX.run_ofS (N := Ng) (ps := [a]) (us := [.ref f]) (vs := [.ref f]) lk hcd Sg hr I1.env0 (hb s' [.ref f] I1.kIn rfl) (.cons rfl .nil) rfl fun hr' => ?_
        exact run X.A X.stack s' H1 f c' (X.env.qual ++ "<lambda>") (fun E2 H' Q' => lE (gX X) (wE (gX X) E2) mb σ H' Q') hr'
          (fun V pn xe E2 p1 p2 tk hW => LamX.pe_act (i := 0) (k := k) I1 L hf hfn hfr (hbind _ _ _ _ _) tk hW hr' (fun A outer s H hr2 => hbody A outer s H E2 f c' hr2) n0 hva hda hdc)
          pp S (mb E S) W Q hs1 hco (fun p' H' x' hs' E2 Q' h => ⟨p', S, E, hs', hE1.mono x'.pre x'.tup, h⟩) (post_base x1 q)
      refine wpAny_call (codeAny_mono rc fun r s2 hq => ?_)
      cases r with
      | error e => exact (show False from hq).elim
      | ok fl =>
        cases fl with
        | ret u => exact I1.after hq
        | next => exact False.elim hq
        | brk => exact False.elim hq
        | cont => exact False.elim hq
    · exact q.elim
  · exact q.elim
/-! ### isinstance(e, class) of a caught exception -/
def fIsX (sub : Str → Option Bool) (d : D) (S : Sto) : Rs D := match d with
  | .ref n => (match S[n]? with
    | some (.ex c []) => (match sub c with
      | some b => .ok (.bl b) S
      | none => .bad)
    | _ => .bad)
  | _ => .bad
/-- the class is one of the program's -/
theorem me_isX {e : Expr} {m : En → Sto → Rs D} {y : Str} {sub : Str → Option Bool} {p p2 pos : Pos} (hg : Gl X "isinstance") (hm : X.mg "isinstance" = none) (he : ME X W e m) (hy : Gl X y) (hyg : X.mg y = some (.ref (He.ga X.K y)))
    (hsub : ∀ c b, sub c = some b → ExcC X.K (He.ga X.K c) ∧ PySem.W.kitOne X.K (.ref (He.ga X.K c)) (.ref (He.ga X.K y)) = some b) (hdb : (y == ("__debug__" : Str)) = false := by decide)
    (hs1 : starEach [e, .Name y p2] X.env = (false, eval e X.env) :: starEach [.Name y p2] X.env := by rfl) (hs2 : starEach [.Name y p2] X.env = (false, eval (.Name y p2) X.env) :: starEach [] X.env := by rfl) (hpl : (backTo pos (starEach [.Name y p2] X.env)).any (·.1) = false := by rfl) :
    ME X W (.Call (.Name "isinstance" p) [e, .Name y p2] [] pos) (m1 (fIsX sub) m) :=
  PE.imp (pe_callB call_isX hg hm PyProof.Rows.boot_isinstance (pa_cons he (pa_cons (pe_glob (v := .ref (He.ga X.K y)) hy hyg rfl hdb) pa_nil hs2) hs1) (by decide) (by decide) hs1 hpl) fun σ H Q q => by
    obtain ⟨pp, S, E, hs, he, q⟩ := q
    refine lE_step hs he (post_mono (fun d S1 p1 H1 x1 hs1 q1 v rv => ?_) (post_bind q))
    unfold fIsX at q1
    split at q1
    · rename_i n
      obtain ⟨a, ea, rfl⟩ := rv
      split at q1
      · rename_i c hc
        split at q1
        · rename_i b hb
          obtain ⟨xx, ex, d, rfl, hd⟩ := hs1.get n a _ ea hc
          have hd0 : d = none := by
            rcases hd with ⟨_, h⟩ | ⟨h0, _⟩
            · exact h
            · exact absurd rfl h0
          subst hd0
          obtain ⟨h1, h2⟩ := hsub c b hb
          exact ⟨a, He.ga X.K c, _, .ref (He.ga X.K y), b, rfl, ex, h1, fun u r => r, h2, post_ok q1 hs1 _ rfl⟩
        · exact q1.elim
      · exact q1.elim
    · exact q1.elim
end
end M

namespace M
open PySem L2
section
variable {X : Cx} {W : XW}
/-! ### methods of lists -/
def isLs (S : Sto) (d : D) : Bool := match d with
  | .ref n => (match S[n]? with
    | some (.lst _) => true
    | _ => false)
  | _ => false
theorem isLs_read {p : List Addr} {S : Sto} {H : Hp} {d : D} {v : V} (hs : RS (gX X) p S H) (r : RD (gX X) p H d v) (h : isLs S d = true) : tyV X.K "list" v H := by
  unfold isLs at h
  split at h
  · rename_i n
    obtain ⟨a, ea, rfl⟩ := r
    split at h
    · rename_i ds hd
      obtain ⟨x, ex, vs, rfl, rs⟩ := hs.get n a _ ea hd
      exact .inl ⟨rfl, vs, .of ex⟩
    · cases h
  · cases h
def mMeth (f : D → List D → Sto → Rs D) (mo : En → Sto → Rs D) (t : En → Sto → Rs (List D)) : En → Sto → Rs D := fun E S => (mo E S).bind fun x S1 => if isLs S1 x then (t E S1).bind fun xs S2 => f x xs S2 else .bad
theorem me_meth {o e : Expr} {es : List Expr} {name : Str} {id : String} {r : V → List V → Hp → VK → Prop} {f : D → List D → Sto → Rs D} {mo : En → Sto → Rs D} {t : En → Sto → Rs (List D)} {apos cpos : Pos} (slot : Slot "list" name id) (hty : typeOf (.builtin id) = pure (.type "method_descriptor")) (hm : MtR X id r) (hp : PrimM (gX X) W r f) (ho : ME X W o mo) (ha : MA X W (e :: es) t)
    (hbase : attributeBase o name X.env (eval o X.env) = eval o X.env := by rfl)
    (hfew : ((backTo cpos (starEach (e :: es) X.env)).all (fun x => !x.1) && (backToKw cpos (keywordEach [] X.env)).all (fun x => x.1.isSome)
      && decide ((e :: es).length + ([] : List Keyword).length + (if ([] : List Keyword).isEmpty then 0 else 1) < 30)) = true := by rfl)
    (hline : (apos.endLine == cpos.line) = true := by rfl) (hst : starEach (e :: es) X.env = (false, eval e X.env) :: starEach es X.env := by rfl) (hplain : (backTo cpos (starEach es X.env)).any (·.1) = false := by rfl) :
    ME X W (.Call (.Attribute o name apos) (e :: es) [] cpos) (mMeth f mo t) :=
  PE.imp (pe_bm PySem.F.plainAttrs_list slot hty hm ho ha hbase hfew hline hst hplain) fun σ H Q q => by
    obtain ⟨p, S, E, hs, he, q⟩ := q
    refine lE_step hs he (post_mono (fun x S1 p1 H1 x1 hs1 q1 v rv => ?_) (post_bind q))
    split at q1
    · rename_i hl
      refine ⟨isLs_read hs1 rv hl, p1, S1, E, hs1, he.mono x1.pre x1.tup, post_mono (fun ds S2 p2 H2 x2 hs2 q2 vs rvs => ?_) (post_bind q1)⟩
      exact hp p2 S2 H2 x ds v vs Q hs2 (rv.mono x2.pre x2.tup) rvs q2
    · exact q1.elim
def fAppend (x : D) (xs : List D) (S : Sto) : Rs D := match x, xs with
  | .ref n, [y] => (match S[n]? with
    | some (.lst ds) => if ds.length < sizeLine then .ok .non (S.set n (.lst (ds ++ [y]))) else .bad
    | _ => .bad)
  | _, _ => .bad
theorem pr_append : PrimM (gX X) W rAppend fAppend := by
  intro p S H x xs v vs Q hs rx rxs q
  unfold fAppend at q
  split at q
  · rename_i n y
    obtain ⟨a, ea, rfl⟩ := rx
    obtain ⟨u, r, rfl, ru, hr⟩ := rxs
    cases (show r = [] from hr)
    split at q
    · rename_i ds hd
      split at q
      · rename_i hz
        obtain ⟨z, ez, us, rfl, rs⟩ := hs.get n a _ ea hd
        refine ⟨a, us, u, rfl, rfl, ez, by rw [← rs.length]; exact hz, ?_⟩
        have x1 : Ext (gX X) p H p (upd H a (.lst (us ++ [u]))) := Ext.set (mem_of_get ea) ez (.inl rfl) (fun _ _ z => by cases z)
        exact q p _ x1 (hs.set ea hd ez (.inl rfl) ⟨_, rfl, rs.append (.one ru)⟩) .non rfl
      · exact q.elim
    · exact q.elim
  · exact q.elim
/-- where an int stands -/
def ixI (ns : List Int) (k : Int) : Option Nat := if ns.findIdx (fun x => x == k) < ns.length then some (ns.findIdx fun x => x == k) else none
theorem ixI_ok {ns : List Int} {k : Int} {j : Nat} (h : ixI ns k = some j) : ns[j]? = some k ∧ ∀ m, m < j → ns[m]? ≠ some k := by
  unfold ixI at h
  split at h
  · rename_i hlt
    cases h
    refine ⟨?_, fun m hm z => ?_⟩
    · rw [List.getElem?_eq_getElem hlt]
      have := List.findIdx_getElem (p := fun x => x == k) (w := hlt)
      congr 1
      simpa using this
    · have := List.not_of_lt_findIdx hm
      obtain ⟨h1, h2⟩ := List.getElem?_eq_some_iff.mp z
      rw [h2] at this
      simp at this
  · cases h
def fRemove (x : D) (xs : List D) (S : Sto) : Rs D := match x, xs with
  | .ref n, [.int k] => (match S[n]? with
    | some (.lst ds) => (match toInts ds with
      | some ns => (match ixI ns k with
        | some j => .ok .non (S.set n (.lst ((ns.eraseIdx j).map .int)))
        | none => .bad)
      | none => .bad)
    | _ => .bad)
  | _, _ => .bad
theorem pr_remove : PrimM (gX X) W rRemI fRemove := by
  intro p S H x xs v vs Q hs rx rxs q
  unfold fRemove at q
  split at q
  · rename_i n k
    obtain ⟨a, ea, rfl⟩ := rx
    obtain ⟨u, r, rfl, ru, hr⟩ := rxs
    cases (show r = [] from hr)
    cases (show u = V.int k from ru)
    split at q
    · rename_i ds hd
      split at q
      · rename_i ns hn
        split at q
        · rename_i j hj
          obtain ⟨z, ez, us, rfl, rs⟩ := hs.get n a _ ea hd
          rw [toInts_eq hn] at rs
          rw [ints_read rs] at ez
          obtain ⟨j1, j2⟩ := ixI_ok hj
          refine ⟨a, ns, k, j, rfl, rfl, ez, j1, j2, ?_⟩
          have x1 : Ext (gX X) p H p (upd H a (.lst ((ns.eraseIdx j).map V.int))) := Ext.set (mem_of_get ea) ez (.inl rfl) (fun _ _ z => by cases z)
          exact q p _ x1 (hs.set ea hd ez (.inl rfl) ⟨_, rfl, rds_ints _⟩) .non rfl
        · exact q.elim
      · exact q.elim
    · exact q.elim
  · exact q.elim
def fCountL (x : D) (xs : List D) (S : Sto) : Rs D := match x, xs with
  | .ref n, [.int k] => (match S[n]? with
    | some (.lst ds) => (match toInts ds with
      | some ns => .ok (.int (ns.count k : Nat)) S
      | none => .bad)
    | _ => .bad)
  | _, _ => .bad
theorem pr_countL : PrimM (gX X) W (rCntI X.K) fCountL := by
  intro p S H x xs v vs Q hs rx rxs q
  unfold fCountL at q
  split at q
  · rename_i n k
    obtain ⟨a, ea, rfl⟩ := rx
    obtain ⟨u, r, rfl, ru, hr⟩ := rxs
    cases (show r = [] from hr)
    cases (show u = V.int k from ru)
    split at q
    · rename_i ds hd
      split at q
      · rename_i ns hn
        obtain ⟨z, ez, us, rfl, rs⟩ := hs.get n a _ ea hd
        rw [toInts_eq hn] at rs
        rw [ints_read rs] at ez
        exact ⟨a, ns, k, rfl, rfl, .of ez, post_ok q hs _ rfl⟩
      · exact q.elim
    · exact q.elim
  · exact q.elim
def fIndexL (x : D) (xs : List D) (S : Sto) : Rs D := match x, xs with
  | .ref n, [.int k] => (match S[n]? with
    | some (.lst ds) => (match toInts ds with
      | some ns => (match ixI ns k with
        | some j => .ok (.int (j : Nat)) S
        | none => .bad)
      | none => .bad)
    | _ => .bad)
  | _, _ => .bad
theorem pr_indexL : PrimM (gX X) W (rIndex X.K) fIndexL := by
  intro p S H x xs v vs Q hs rx rxs q
  unfold fIndexL at q
  split at q
  · rename_i n k
    obtain ⟨a, ea, rfl⟩ := rx
    obtain ⟨u, r, rfl, ru, hr⟩ := rxs
    cases (show r = [] from hr)
    cases (show u = V.int k from ru)
    split at q
    · rename_i ds hd
      split at q
      · rename_i ns hn
        split at q
        · rename_i j hj
          obtain ⟨z, ez, us, rfl, rs⟩ := hs.get n a _ ea hd
          rw [toInts_eq hn] at rs
          rw [ints_read rs] at ez
          obtain ⟨j1, j2⟩ := ixI_ok hj
          refine ⟨a, ns.map V.int, .int k, j, .int k, rfl, rfl, .of ez, rfl, ?_, by rw [List.getElem?_map, j1]; rfl, ?_, fun m z' hm hz => ?_, post_ok q hs _ rfl⟩
          · rw [List.all_eq_true]
            intro w hw
            obtain ⟨i, _, rfl⟩ := List.mem_map.mp hw
            rfl
          · show (k == k) = true
            simp
          · rw [List.getElem?_map] at hz
            cases hq : ns[m]? with
            | none => rw [hq] at hz; cases hz
            | some i =>
              rw [hq] at hz
              cases hz
              show (i == k) = false
              have := j2 m hm
              rw [hq] at this
              simpa using fun e => this (by rw [e])
        · exact q.elim
      · exact q.elim
    · exact q.elim
  · exact q.elim
end
end M

namespace M
open PySem L2
section
variable {X : Cx} {W : XW}
/-! ### d.update(e), both by ints and texts -/
def rUpd : V → List V → Hp → VK → Prop := fun x xs H Q => ∃ (a b : Addr) (ks ls : List (Key × V)), x = .ref a ∧ xs = [.ref b] ∧ a ≠ b ∧ H a = some (.dK ks) ∧ H b = some (.dK ls) ∧ ks.length + ls.length ≤ sizeLine ∧ Q .non (upd H a (.dK (mergeK ks ls)))
theorem mt_upd : MtR X "dict.update" rUpd := by
  intro pins s σ H x xs v us Q I rx rxs h
  obtain ⟨a, b, ks, ls, rfl, rfl, hab, ha, hb, hz, q⟩ := h
  obtain rfl : v = Value.ref a := rx
  rw [Vals.ref1 rxs]
  obtain ⟨z1, sm1, vs1, kv1, d1⟩ := dk_of I.hok ha
  obtain ⟨z2, sm2, vs2, kv2, d2⟩ := dk_of I.hok hb
  have l1 : ks.length = vs1.length := Paired.length kv1
  have l2 : ls.length = vs2.length := Paired.length kv2
  refine call_meetsIn F.slot_dict_update d1.typeIs F.entry_dict_update (F.args_dict_update_2 _ _) (meets_dict_update (mixKind X.prog X.w) a b hab sm2) ⟨vs1, vs2, d1, d2, by omega, fun h' d' _ hs => ?_⟩
  have he : ∃ q, h'.get? a = some q := let ⟨q, _, _, hq, _⟩ := d'; ⟨q, hq⟩
  have hl := length_mergeK ls ks
  exact ⟨.non, _, d_write I (by rw [ha]; exact True.intro) hs he (dk_new (by omega) sm1 (kv2.merge kv1) d'), rfl, q⟩
def isDo (S : Sto) (d : D) : Bool := match d with
  | .ref n => (match S[n]? with
    | some (.dk _) => true
    | _ => false)
  | _ => false
theorem isDo_read {p : List Addr} {S : Sto} {H : Hp} {d : D} {v : V} (hs : RS (gX X) p S H) (r : RD (gX X) p H d v) (h : isDo S d = true) : tyV X.K "dict" v H := by
  unfold isDo at h
  split at h
  · rename_i n
    obtain ⟨a, ea, rfl⟩ := r
    split at h
    · rename_i ds hd
      obtain ⟨x, ex, vs, rfl, rs⟩ := hs.get n a _ ea hd
      exact .inr (.inr (.inl ⟨rfl, .inl ⟨vs, ex⟩⟩))
    · cases h
  · cases h
def fUpd (x : D) (xs : List D) (S : Sto) : Rs D := match x, xs with
  | .ref n, [.ref m] => if n = m then .bad else (match S[n]?, S[m]? with
    | some (.dk kvs), some (.dk more) => if kvs.length + more.length ≤ sizeLine then .ok .non (S.set n (.dk (mergeD kvs more))) else .bad
    | _, _ => .bad)
  | _, _ => .bad
theorem pr_upd : PrimM (gX X) W rUpd fUpd := by
  intro p S H x xs v vs Q hs rx rxs q
  unfold fUpd at q
  split at q
  · rename_i n m
    obtain ⟨a, ea, rfl⟩ := rx
    obtain ⟨u, r, rfl, ⟨b, eb, rfl⟩, hr⟩ := rxs
    cases (show r = [] from hr)
    split at q
    · exact q.elim
    · rename_i hnm
      split at q
      · rename_i kvs more h1 h2
        split at q
        · rename_i hz
          obtain ⟨y1, ey1, ws1, rfl, rk1⟩ := hs.get n a _ ea h1
          obtain ⟨y2, ey2, ws2, rfl, rk2⟩ := hs.get m b _ eb h2
          have hab : a ≠ b := fun z => by
            subst z
            obtain ⟨g1, q1⟩ := List.getElem?_eq_some_iff.mp ea
            obtain ⟨g2, q2⟩ := List.getElem?_eq_some_iff.mp eb
            exact hnm ((List.getElem_inj hs.nd).mp (q1.trans q2.symm))
          refine ⟨a, b, ws1, ws2, rfl, rfl, hab, ey1, ey2, by rw [← rk1.length, ← rk2.length]; exact hz, ?_⟩
          have x1 : Ext (gX X) p H p (upd H a (.dK (mergeK ws1 ws2))) := Ext.set (mem_of_get ea) ey1 (.inl rfl) (fun _ _ z => by cases z)
          exact q p _ x1 (hs.set ea h1 ey1 (.inl rfl) ⟨_, rfl, rk2.merge rk1⟩) .non rfl
        · exact q.elim
      · exact q.elim
  · exact q.elim
def mMethD (f : D → List D → Sto → Rs D) (mo : En → Sto → Rs D) (t : En → Sto → Rs (List D)) : En → Sto → Rs D := fun E S => (mo E S).bind fun x S1 => if isDo S1 x then (t E S1).bind fun xs S2 => f x xs S2 else .bad
theorem me_upd {o e : Expr} {es : List Expr} {mo : En → Sto → Rs D} {t : En → Sto → Rs (List D)} {apos cpos : Pos} (ho : ME X W o mo) (ha : MA X W (e :: es) t)
    (hbase : attributeBase o "update" X.env (eval o X.env) = eval o X.env := by rfl)
    (hfew : ((backTo cpos (starEach (e :: es) X.env)).all (fun x => !x.1) && (backToKw cpos (keywordEach [] X.env)).all (fun x => x.1.isSome)
      && decide ((e :: es).length + ([] : List Keyword).length + (if ([] : List Keyword).isEmpty then 0 else 1) < 30)) = true := by rfl)
    (hline : (apos.endLine == cpos.line) = true := by rfl) (hst : starEach (e :: es) X.env = (false, eval e X.env) :: starEach es X.env := by rfl) (hplain : (backTo cpos (starEach es X.env)).any (·.1) = false := by rfl) :
    ME X W (.Call (.Attribute o "update" apos) (e :: es) [] cpos) (mMethD fUpd mo t) :=
  PE.imp (pe_bm PySem.F.plainAttrs_dict PySem.F.slot_dict_update PySem.F.type_dict_update mt_upd ho ha hbase hfew hline hst hplain) fun σ H Q q => by
    obtain ⟨p, S, E, hs, he, q⟩ := q
    refine lE_step hs he (post_mono (fun x S1 p1 H1 x1 hs1 q1 v rv => ?_) (post_bind q))
    split at q1
    · rename_i hl
      refine ⟨isDo_read hs1 rv hl, p1, S1, E, hs1, he.mono x1.pre x1.tup, post_mono (fun ds S2 p2 H2 x2 hs2 q2 vs rvs => ?_) (post_bind q1)⟩
      exact pr_upd p2 S2 H2 x ds v vs Q hs2 (rv.mono x2.pre x2.tup) rvs q2
    · exact q1.elim
end
end M

namespace M
open PySem L2 PySem.W
/-! ### min of a list of pairs of ints -/
abbrev prD (p : Int × Int) : PyData := .tuple [.int p.1, .int p.2]
def ltP2 (y a : Int × Int) : Bool := decide (y.1 < a.1 ∨ (y.1 = a.1 ∧ y.2 < a.2))
def minP (p : Int × Int) (ps : List (Int × Int)) : Int × Int := ps.foldl (fun a y => if ltP2 y a then y else a) p
theorem minD_pairs : ∀ {ps : List (Int × Int)} {p : Int × Int}, minD (prD p) (ps.map prD) = prD (minP p ps)
  | [], p => rfl
  | y :: ps, p => by
    have e : dataLt (prD y) (prD p) = ltP2 y p := dataLt_ii ..
    show minD (if dataLt (prD y) (prD p) then prD y else prD p) (ps.map prD) = prD (minP (if ltP2 y p then y else p) ps)
    rw [e]
    split
    · exact minD_pairs
    · exact minD_pairs
theorem reads_pair {h : Heap} {u : Value} {p q : Int × Int} {as bs : List Addr} (a : Reads h u (prD p) as) (b : Reads h u (prD q) bs) : p = q := by
  have e := (Reads.unique a (prD q) bs b).1
  injection e with e
  injection e with e1 e2
  injection e1 with e1
  injection e2 with e2 _
  injection e2 with e2
  exact Prod.ext e1 e2
section
variable {X : Cx} {W : XW}
def rMinP (K : PySem.W.Frag) : List V → Hp → VK → Prop := fun xs H Q => ∃ (l : Addr) (ys : List V) (p : Int × Int) (ps : List (Int × Int)), xs = [.ref l] ∧ SqL K H l ys ∧ DpAll K H ys ((p :: ps).map prD) ∧ ∀ (v : V) (i : Nat), ys[i]? = some v → (p :: ps)[i]? = some (minP p ps) → Q v H
theorem depth_pairs : ∀ ps : List (Int × Int), PyData.depthAll (ps.map prD) ≤ 8
  | [] => by decide
  | p :: ps => by
    have := depth_pairs ps
    rw [List.map_cons, PyData.depthAll]
    have h : (prD p).depth ≤ 8 := by
      show PyData.depth (.tuple [.int p.1, .int p.2]) ≤ 8
      simp [PyData.depth, PyData.depthAll]
    omega
theorem cr_minP (hc : X.calm = true) (hu : X.A.units + 64 < cLine) : CallR X (.builtin "min") (rMinP X.K) := by
  intro pins s σ H xs us Q I r h
  obtain ⟨l, ys, p, ps, rfl, hl, hd, q⟩ := h
  rw [Vals.ref1 r]
  obtain ⟨its, rv, pl, hz⟩ := I.list hl
  obtain ⟨as, ra⟩ := Dp.readsAll I _ _ _ hd rv
  have al : AlikeAll ((p :: ps).map prD) := by
    refine ⟨fun x hx y hy => ?_, fun x hx z => ?_⟩
    · obtain ⟨a, _, rfl⟩ := List.mem_map.mp hx
      obtain ⟨b, _, rfl⟩ := List.mem_map.mp hy
      rfl
    · obtain ⟨a, _, rfl⟩ := List.mem_map.mp hx
      cases z
  have dp := depth_pairs (p :: ps)
  have ra' : ReadsAll s.heap its.toArray.toList (prD p :: ps.map prD) as := ra
  refine min_list_data (I.ok.hd hc) pl.isList ra' al (by
    have : PyData.depthAll (prD p :: ps.map prD) ≤ 8 := dp
    omega) fun i v h' tk bs hv hr hk => ?_
  have hv' : its[i]? = some v := by rw [← hv]; simp
  obtain ⟨cs, r2, hlt, _⟩ := readsAll_at ra i v hv'
  rw [minD_pairs] at hr
  have hi : i < (p :: ps).length := by
    have := hlt
    simpa using this
  have e1 : (p :: ps)[i]? = some (minP p ps) := by
    have r3 : Reads s.heap v (prD ((p :: ps)[i])) cs := by
      have e : ((p :: ps).map prD).getD i .none = prD ((p :: ps)[i]) := by
        rw [List.getD_eq_getElem?_getD, List.getElem?_map, List.getElem?_eq_getElem hi]; rfl
      rw [← e]
      exact r2
    have r4 := reads_keeps hk r3
    rw [List.getElem?_eq_getElem hi, reads_pair r4 hr]
  have hy : ∃ w, ys[i]? = some w ∧ RelV w v := by
    have hi2 : i < ys.length := by rw [rv.length]; exact (List.getElem?_eq_some_iff.mp hv').1
    obtain ⟨u', e', ru⟩ := Vals.get rv (i := i) (x := ys[i]) (by simp [hi2])
    rw [hv'] at e'
    cases e'
    exact ⟨ys[i], by simp [hi2], ru⟩
  obtain ⟨w, hw, rw'⟩ := hy
  exact ⟨w, H, I.kept (t' := tk) hk, rw', q w i hw e1⟩
end
end M

namespace M
open PySem L2
section
variable {X : Cx} {W : XW}
def prT (p : Int × Int) : D := .tup [.int p.1, .int p.2]
def toPairs : List D → Option (List (Int × Int))
  | [] => some []
  | .tup [.int a, .int b] :: r => (toPairs r).map ((a, b) :: ·)
  | _ :: _ => none
theorem toPairs_eq : ∀ {ds : List D} {ps : List (Int × Int)}, toPairs ds = some ps → ds = ps.map prT
  | [], ps, h => by cases h; rfl
  | d :: r, ps, h => by
    unfold toPairs at h
    split at h
    · rename_i h0; cases h0
    · rename_i a b r' h0
      cases h0
      obtain ⟨qs, h1, rfl⟩ := Option.map_eq_some_iff.mp h
      rw [toPairs_eq h1]; rfl
    · cases h
theorem toPairs_map {ps : List (Int × Int)} : toPairs (ps.map prT) = some ps := by
  induction ps with
  | nil => rfl
  | cons p ps ih =>
    show (toPairs (ps.map prT)).map ((p.1, p.2) :: ·) = _
    rw [ih]; rfl
theorem dp_pairs {p : List Addr} {H : Hp} : ∀ {ps : List (Int × Int)} {vs : List V}, RDs (gX X) p H (ps.map prT) vs → DpAll X.K H vs (ps.map prD)
  | [], vs, h => by cases (show vs = [] from h); exact .nil
  | q :: ps, vs, h => by
    obtain ⟨v, r, rfl, ⟨a, us, rfl, e, hu⟩, h2⟩ := h
    obtain ⟨u1, r1, rfl, e1, h3⟩ := hu
    obtain ⟨u2, r2, rfl, e2, h4⟩ := h3
    cases (show r2 = [] from h4)
    cases (show u1 = V.int q.1 from e1)
    cases (show u2 = V.int q.2 from e2)
    exact .cons (.tup e (.cons (.int _) (.cons (.int _) .nil))) (dp_pairs h2)
def fMinP (ds : List D) (S : Sto) : Rs D := match ds with
  | [.ref n] => (match S[n]? with
    | some (.lst xs) => (match toPairs xs with
      | some (p :: ps) => .ok (prT (minP p ps)) S
      | _ => .bad)
    | _ => .bad)
  | _ => .bad
theorem pr_minP : PrimN (gX X) W (rMinP X.K) fMinP := by
  intro p S H xs vs Q hs rs q
  unfold fMinP at q
  split at q
  · rename_i n
    obtain ⟨v, r, rfl, ⟨a, ea, rfl⟩, h2⟩ := rs
    cases (show r = [] from h2)
    split at q
    · rename_i ds hd
      split at q
      · rename_i pp ps hp
        obtain ⟨x, ex, us, rfl, rr⟩ := hs.get n a _ ea hd
        rw [toPairs_eq hp] at rr
        refine ⟨a, us, pp, ps, rfl, .of ex, dp_pairs rr, fun w i hw hi => ?_⟩
        obtain ⟨d, hdd, rd⟩ := rr.get' hw
        rw [List.getElem?_map, hi] at hdd
        cases hdd
        exact post_ok q hs w rd
      · exact q.elim
    · exact q.elim
  · exact q.elim
/-- isinstance(e, T), T a built-in class -/
theorem me_isXB {e : Expr} {m : En → Sto → Rs D} {T : String} {y : Str} {sub : Str → Option Bool} {p p2 pos : Pos} (hg : Gl X "isinstance") (hm : X.mg "isinstance" = none) (he : ME X W e m) (hy : Gl X y) (hyg : X.mg y = none) (hv : bootBuiltins y = some (.type T))
    (hsub : ∀ c b, sub c = some b → ExcC X.K (He.ga X.K c) ∧ PySem.W.kitOne X.K (.ref (He.ga X.K c)) (.type T) = some b) (hn : y ≠ "__name__" := by decide) (hdb : (y == ("__debug__" : Str)) = false := by decide)
    (hs1 : starEach [e, .Name y p2] X.env = (false, eval e X.env) :: starEach [.Name y p2] X.env := by rfl) (hs2 : starEach [.Name y p2] X.env = (false, eval (.Name y p2) X.env) :: starEach [] X.env := by rfl) (hpl : (backTo pos (starEach [.Name y p2] X.env)).any (·.1) = false := by rfl) :
    ME X W (.Call (.Name "isinstance" p) [e, .Name y p2] [] pos) (m1 (fIsX sub) m) :=
  PE.imp (pe_callB call_isX hg hm PyProof.Rows.boot_isinstance (pa_cons he (pa_cons (pe_bltn (v := .ty T) hy hyg hv rfl hn hdb) pa_nil hs2) hs1) (by decide) (by decide) hs1 hpl) fun σ H Q q => by
    obtain ⟨pp, S, E, hs, he, q⟩ := q
    refine lE_step hs he (post_mono (fun d S1 p1 H1 x1 hs1 q1 v rv => ?_) (post_bind q))
    unfold fIsX at q1
    split at q1
    · rename_i n
      obtain ⟨a, ea, rfl⟩ := rv
      split at q1
      · rename_i c hc
        split at q1
        · rename_i b hb
          obtain ⟨xx, ex, d, rfl, hd⟩ := hs1.get n a _ ea hc
          have hd0 : d = none := by
            rcases hd with ⟨_, h⟩ | ⟨h0, _⟩
            · exact h
            · exact absurd rfl h0
          subst hd0
          obtain ⟨h1, h2⟩ := hsub c b hb
          exact ⟨a, He.ga X.K c, _, .type T, b, rfl, ex, h1, fun u r => r, h2, post_ok q1 hs1 _ rfl⟩
        · exact q1.elim
      · exact q1.elim
    · exact q1.elim
/-- facts of the classes, as one test of the fragment -/
def excB (K : PySem.W.Frag) (D : Addr) : Bool :=
  He.eqO (PySem.W.findIn K (.ref D) "__getattribute__") (some (some (.builtin "BaseException.__getattribute__"))) && (He.eqO (PySem.W.findIn K (.ref D) "__getattr__") (some none) && (decide (PySem.W.subIn K (.ref D) (.type "BaseException") = some true) && (PySem.W.hasDictIn K D && (He.eqO (PySem.W.findIn K (.ref D) "__class__") (some (some (.builtin "object.__class__"))) &&
  (He.eqO (PySem.W.specialIn K (.builtin "object.__class__") "__get__") (some (some (.builtin "getset_descriptor.__get__"))) && (decide (PySem.W.takesIn K (.builtin "object.__class__") = some true) && decide (PySem.W.mroIn K D (.type "object") = some true)))))))
theorem excB_ok {K : PySem.W.Frag} {D : Addr} (h : excB K D = true) : ExcC K D := by
  obtain ⟨h1, h⟩ := He.ba h
  obtain ⟨h2, h⟩ := He.ba h
  obtain ⟨h3, h⟩ := He.ba h
  obtain ⟨h4, h⟩ := He.ba h
  obtain ⟨h5, h⟩ := He.ba h
  obtain ⟨h6, h⟩ := He.ba h
  obtain ⟨h7, h8⟩ := He.ba h
  exact ⟨He.eqO_ok h1, He.eqO_ok h2, of_decide_eq_true h3, h4, He.eqO_ok h5, He.eqO_ok h6, of_decide_eq_true h7, of_decide_eq_true h8⟩
/-- c is an instance of y, or not -/
def isxB (K : PySem.W.Frag) (c : Str) (cv : Value) (b : Bool) : Bool := excB K (He.ga K c) && decide (PySem.W.kitOne K (.ref (He.ga K c)) cv = some b)
theorem isxB_ok {K : PySem.W.Frag} {c : Str} {cv : Value} {b : Bool} (h : isxB K c cv b = true) : ExcC K (He.ga K c) ∧ PySem.W.kitOne K (.ref (He.ga K c)) cv = some b := by
  obtain ⟨h1, h2⟩ := He.ba h
  exact ⟨excB_ok h1, of_decide_eq_true h2⟩
/-- of one class alone -/
def sub1 (c : Str) (b : Bool) : Str → Option Bool := fun x => if x = c then some b else none
theorem sub1_ok {K : PySem.W.Frag} {c : Str} {cv : Value} {b : Bool} (h : isxB K c cv b = true) : ∀ x b', sub1 c b x = some b' → ExcC K (He.ga K x) ∧ PySem.W.kitOne K (.ref (He.ga K x)) cv = some b' := fun x b' e => by
  unfold sub1 at e
  split at e
  · rename_i hx
    cases e
    rw [hx]
    exact isxB_ok h
  · cases e
end
end M

namespace M
open PySem L2
/-! ### a def that may raise, called where it does not -/
structure DefXK (P : Program) (w : World) (K : PySem.W.Frag) (mg : Str → Option Value) (base : Heap) (k : Nat) (x : Str) (st : Stmt) (ps : List Str) (mf : List D → Sto → Rs D) : Prop where
  ex : ∃ (f : Addr) (fd : FuncData), FnOk P w K mg base (L2.CX P w) k f fd ps (spX ⟨K, P, w⟩ ps.length mf) ∧ mg x = some (.ref f) ∧ PySem.W.keepIn K (.ref f) = true ∧ Binds K fd ps [] ∧ FunD K x x (defArgs st) (defBody st) (defScope st) [] [] f fd
section
variable {P : Program} {w : World} {K : PySem.W.Frag} {mg : Str → Option Value} {base : Heap}
theorem post_w0 {α : Type} {G : KX} {W : XW} {p : List Addr} {H : Hp} {r : Rs α} {k : α → Sto → List Addr → Hp → Prop} (h : post G W0 p H r k) : post G W p H r k := by
  cases r with
  | ok a S => exact h
  | exc c fs S => exact fun p' H' x hs => (h p' H' x hs).elim
  | bad => exact h
theorem fn_quiet {k n : Nat} {f : Addr} {fd : FuncData} {ps : List Str} {mf : List D → Sto → Rs D} (F : FnOk P w K mg base (L2.CX P w) k f fd ps (spX ⟨K, P, w⟩ n mf)) : FnOk P w K mg base CX0 k f fd ps (spM ⟨K, P, w⟩ n mf) where
  len := fun vs H Q E h => by
    obtain ⟨h1, p, S, ds, hs, rd, q⟩ := h
    exact F.len vs H Q E0 ⟨h1, p, S, ds, hs, rd, post_w0 q⟩
  run := fun A outer s H args us vs Q E hr e0 hb r h => by
    obtain ⟨h1, p, S, ds, hs, rd, q⟩ := h
    refine codeAny_mono (F.run A outer s H args us vs Q E0 hr e0 hb r ⟨h1, p, S, ds, hs, rd, post_w0 q⟩) fun r s' z => ?_
    cases r with
    | error e =>
      obtain ⟨_, _, _, _, _, _, _, _, _, _, _, _, hE⟩ := (show L2.CX P w outer H s E0 e s' from z)
      exact hE.elim
    | ok fl =>
      cases fl with
      | ret u => exact z
      | next => exact False.elim z
      | brk => exact False.elim z
      | cont => exact False.elim z
theorem DefXK.x {k : Nat} {x : Str} {st : Stmt} {ps : List Str} {mf : List D → Sto → Rs D} (h : DefXK P w K mg base k x st ps mf) : DefX P w K mg base k x ps.length mf := by
  obtain ⟨f, fd, h1, h2, h3, h4, _⟩ := h.ex
  exact ⟨f, fd, ps, h1, h2, h3, h4⟩
theorem DefXK.k {k : Nat} {x : Str} {st : Stmt} {ps : List Str} {mf : List D → Sto → Rs D} (h : DefXK P w K mg base k x st ps mf) : DefK P w K mg base k x st ps mf := by
  obtain ⟨f, fd, h1, h2, h3, h4, h5⟩ := h.ex
  exact ⟨f, fd, fn_quiet h1, h2, h3, h4, h5⟩
theorem defAtXK {x : Str} {st : Stmt} {N ps : List Str} {k : Nat} {mb : En → Sto → Rs Fl} (F : ∃ fd, FunD K x x (defArgs st) (defBody st) (defScope st) [] [] (He.ga K x) fd) (hm : mg x = some (.ref (He.ga K x))) (S : FnScope N ps (defScope st))
    (hbd : ∀ (kV doc pm : Value) (an : Option Addr) (cdv ct : Value) (us : List Value), us.length = ps.length → bindArgs (PySem.W.fnOf x x (defArgs st) (defBody st) (defScope st) .none kV doc pm an cdv ct) ⟨us, []⟩ = pure (ps.zip us))
    (hb : ∀ (A : Around) (outer : List Env) (s : Shared) (H : Hp) (E : XK), Room k (A.deeper (PyProof.Rows.envOfC x (defScope st) s.heap.objs.size (He.ga K x) (.ref (He.codeOf K (x, none))))) → MSs (cxOf (L2.CX P w) P w K mg base N x (defScope st) (He.ga K x) (.ref (He.codeOf K (x, none))) A outer s H E) (wE ⟨K, P, w⟩ E) (defBody st) mb) :
    DefXK P w K mg base (k + 1) x st ps (mDef N.length mb) := by
  obtain ⟨fd, F⟩ := F
  have hbn := F.bindsN hbd
  have hkp := F.kp
  refine ⟨_, fd, ?_, hm, hkp, hbn, F⟩
  obtain ⟨oc, od, dV, kV, doc, pm, an, cdv, ct, osl, rfl, lk, hcd, _, _⟩ := F.ex
  obtain ⟨c, rfl⟩ := He.codeIn_ref hcd
  have e : He.codeOf K (x, none) = c := He.codeOf_eq (p := (x, none)) lk rfl
  rw [e] at hb
  refine fn_of lk hcd S (fun vs H Q E h => h.1) (fun A outer s H vs Q E hr h => ?_)
  obtain ⟨hl, p, S', ds, hs, rd, q⟩ := h
  refine ⟨_, hb A outer s H E hr, p, S', startE N.length ds, hs, RE.start N rd, post_mono (fun fl S1 p1 H1 x1 hs1 q1 => ?_) (post_bindB q)⟩
  cases fl with
  | nx E1 => exact fun σ' _ => gc_read (d := .non) (v := .non) hs x1 hs1 rfl q1
  | rt d => exact fun v rv => gc_read hs x1 hs1 rv q1
  | bk E1 => exact q1.elim
  | ct E1 => exact q1.elim
end
end M

namespace M
open PySem L2 PySem.Spec
/-! ### facts of more than one class -/
def okL (cs : List Str) (c : Str) : Bool := decide (c ∈ cs)
def okB (K : PySem.W.Frag) (cs : List Str) (le : Str) : Bool := cs.all fun c => decide (PySem.W.exmOne K (.ref (He.ga K c)) (.ref (He.ga K le)) = some true)
theorem okB_ok {K : PySem.W.Frag} {cs : List Str} {le : Str} (h : okB K cs le = true) : ∀ c, okL cs c = true → PySem.W.exmOne K (.ref (He.ga K c)) (.ref (He.ga K le)) = some true := fun c hc =>
  of_decide_eq_true (List.all_eq_true.mp h c (of_decide_eq_true hc))
def subL : List (Str × Bool) → Str → Option Bool
  | [], _ => none
  | (x, b) :: r, c => if c = x then some b else subL r c
def isxL (K : PySem.W.Frag) (l : List (Str × Bool)) (cv : Value) : Bool := l.all fun x => isxB K x.1 cv x.2
theorem isxL_ok {K : PySem.W.Frag} {l : List (Str × Bool)} {cv : Value} (h : isxL K l cv = true) : ∀ c b, subL l c = some b → ExcC K (He.ga K c) ∧ PySem.W.kitOne K (.ref (He.ga K c)) cv = some b := by
  induction l with
  | nil => intro c b e; cases e
  | cons x r ih =>
    intro c b e
    have h' := List.all_eq_true.mp h
    unfold subL at e
    split at e
    · rename_i hc
      cases e
      rw [hc]
      exact isxB_ok (h' x List.mem_cons_self)
    · exact ih (List.all_eq_true.mpr fun y hy => h' y (List.mem_cons_of_mem _ hy)) c b e
end M

namespace M
open PySem L2
/-! ### stepping -/
theorem seq_ok {a b : En → Sto → Rs Fl} {E E1 : En} {S S1 : Sto} {r : Rs Fl} (h : a E S = .ok (.nx E1) S1) (h2 : b E1 S1 = r) : sSeq a b E S = r := by
  unfold sSeq; rw [h]; exact h2
theorem seq_rt {a b : En → Sto → Rs Fl} {E : En} {S S1 : Sto} {d : D} (h : a E S = .ok (.rt d) S1) : sSeq a b E S = .ok (.rt d) S1 := by
  unfold sSeq; rw [h]; rfl
theorem if_yes {t : En → Sto → Rs Bool} {a b : En → Sto → Rs Fl} {E : En} {S S1 : Sto} {r : Rs Fl} (h : t E S = .ok true S1) (h2 : a E S1 = r) : sIf t a b E S = r := by
  unfold sIf; rw [h]; exact h2
theorem if_no {t : En → Sto → Rs Bool} {a b : En → Sto → Rs Fl} {E : En} {S S1 : Sto} {r : Rs Fl} (h : t E S = .ok false S1) (h2 : b E S1 = r) : sIf t a b E S = r := by
  unfold sIf; rw [h]; exact h2
theorem asg_ok {m : En → Sto → Rs D} {g : D → En → Sto → Rs En} {E E1 : En} {S S1 S2 : Sto} {d : D} (h : m E S = .ok d S1) (h2 : g d E S1 = .ok E1 S2) : sAsg m g E S = .ok (.nx E1) S2 := by
  unfold sAsg; rw [h, bind_ok, h2]; rfl
theorem ret_ok {m : En → Sto → Rs D} {E : En} {S S1 : Sto} {d : D} (h : m E S = .ok d S1) : sRet m E S = .ok (.rt d) S1 := by
  unfold sRet; rw [h]; rfl
theorem call_ok {n : Nat} {f : List D → Sto → Rs D} {t : En → Sto → Rs (List D)} {E : En} {S S1 S2 : Sto} {ds : List D} {d : D} (ht : t E S = .ok ds S1) (hl : ds.length = n) (h : f ds S1 = .ok d S2) : mN (mCl n f) t E S = .ok d S2 := by
  unfold mN mCl; rw [ht, bind_ok, if_pos hl, h]; rfl
theorem m2_ok {f : D → D → Sto → Rs D} {a b : En → Sto → Rs D} {E : En} {S S1 S2 : Sto} {x y : D} {r : Rs D} (ha : a E S = .ok x S1) (hb : b E S1 = .ok y S2) (h : f x y S2 = r) : m2 f a b E S = r := by
  unfold m2; rw [ha, bind_ok, hb, bind_ok, h]
theorem tB_ok {m : En → Sto → Rs D} {E : En} {S S1 : Sto} {b : Bool} (h : m E S = .ok (.bl b) S1) : tB m E S = .ok b S1 := by
  unfold tB; rw [h]; rfl
theorem def_rt {n : Nat} {mb : En → Sto → Rs Fl} {ds : List D} {S S1 : Sto} {d : D} {r : Rs D} (h : mb (startE n ds) S = .ok (.rt d) S1) (h2 : gc S.length d S1 = r) : mDef n mb ds S = r := by
  unfold mDef; rw [h]; exact h2
/-! ### what is dropped -/
theorem gc_same {n : Nat} {d : D} {S : Sto} (h : S.length = n) : gc n d S = .ok d S := by
  unfold gc; rw [← h, List.take_length]; split <;> rfl
theorem gc_cut {d : D} {S T : Sto} (hd : lowD S.length d = true) (hl : lowS S.length S = true) : gc S.length d (S ++ T) = .ok d S := by
  unfold gc; rw [List.take_left, hd, hl]; rfl
mutual
theorem lowD_mono {n m : Nat} (h : n ≤ m) : ∀ {d : D}, lowD n d = true → lowD m d = true
  | .non, _ => rfl
  | .bl _, _ => rfl
  | .int _, _ => rfl
  | .str _, _ => rfl
  | .raw _, _ => rfl
  | .rl _, _ => rfl
  | .ref k, q => by
    have q : k < n := of_decide_eq_true q
    exact decide_eq_true (Nat.lt_of_lt_of_le q h)
  | .tup ds, q => lowDs_mono h (ds := ds) q
theorem lowDs_mono {n m : Nat} (h : n ≤ m) : ∀ {ds : List D}, lowDs n ds = true → lowDs m ds = true
  | [], _ => rfl
  | d :: ds, q => by
    have q : (lowD n d && lowDs n ds) = true := q
    rw [Bool.and_eq_true] at q
    show (lowD m d && lowDs m ds) = true
    rw [lowD_mono h q.1, lowDs_mono h q.2]
    rfl
end
theorem lowO_mono {n m : Nat} (h : n ≤ m) {o : O} (q : lowO n o = true) : lowO m o = true := by
  cases o with
  | lst ds => exact lowDs_mono h q
  | dk kvs => exact lowDs_mono h q
  | fd kvs => exact lowDs_mono h q
  | dn kvs => exact lowDs_mono h q
  | fn kvs => exact lowDs_mono h q
  | ex c fs => exact lowDs_mono h q
  | tb P x => rfl
theorem lowS_mono {n m : Nat} (h : n ≤ m) {S : Sto} (q : lowS n S = true) : lowS m S = true :=
  List.all_eq_true.mpr fun o ho => lowO_mono h (List.all_eq_true.mp q o ho)
/-- a store all of whose references are its own -/
def Low (S : Sto) : Prop := lowS S.length S = true
theorem Low.snoc {S : Sto} {o : O} (h : Low S) (ho : lowO (S.length + 1) o = true) : Low (S ++ [o]) := by
  unfold Low
  rw [List.length_append]
  refine List.all_eq_true.mpr fun u hu => ?_
  rcases List.mem_append.mp hu with hu | hu
  · exact lowO_mono (Nat.le_add_right ..) (List.all_eq_true.mp h u hu)
  · rw [List.mem_singleton.mp hu]; exact ho
theorem Low.set {S : Sto} {o : O} {i : Nat} (h : Low S) (ho : lowO S.length o = true) : Low (S.set i o) := by
  unfold Low
  rw [List.length_set]
  refine List.all_eq_true.mpr fun u hu => ?_
  rcases List.mem_or_eq_of_mem_set hu with hu | rfl
  · exact List.all_eq_true.mp h u hu
  · exact ho
theorem lowDs_ints {n : Nat} : ∀ {ns : List Int}, lowDs n (ns.map .int) = true
  | [] => rfl
  | _ :: ns => by rw [List.map_cons]; show (true && lowDs n (ns.map .int)) = true; rw [lowDs_ints]; rfl
theorem lowDs_all {n : Nat} : ∀ {ds : List D}, (∀ d ∈ ds, lowD n d = true) → lowDs n ds = true
  | [], _ => rfl
  | d :: ds, h => by
    show (lowD n d && lowDs n ds) = true
    rw [h d (List.mem_cons_self ..), lowDs_all fun x hx => h x (List.mem_cons_of_mem _ hx)]; rfl
@[simp] theorem get_end (S : Sto) (o : O) : (S ++ [o])[S.length]? = some o := by simp
@[simp] theorem set_end (S : Sto) (o u : O) : (S ++ [o]).set S.length u = S ++ [u] := by simp
theorem get_old {S : Sto} {o : O} {i : Nat} {u : O} (h : S[i]? = some u) : (S ++ [o])[i]? = some u := by
  have := (List.getElem?_eq_some_iff.mp h).1
  rw [List.getElem?_append_left this]; exact h
theorem set_self {S : Sto} {i : Nat} {o u : O} (h : S[i]? = some o) : (S.set i u).set i o = S := by
  rw [List.set_set]
  obtain ⟨h1, h2⟩ := List.getElem?_eq_some_iff.mp h
  rw [← h2, List.set_getElem_self]
/-! ### comprehensions that change nothing -/
theorem compL_pure {g : Sto → Prop} {body : D → Sto → Rs (Option D)} {S : Sto} (f : D → Option D) (hg : g S) : ∀ {items acc : List D}, (∀ d ∈ items, body d S = .ok (f d) S) → acc.length + items.length ≤ sizeLine → compL g body items acc S = .ok (acc ++ items.filterMap f) S
  | [], acc, _, _ => by rw [compL, if_pos hg]; simp
  | d :: r, acc, h, hl => by
    rw [compL, if_pos hg, h d (List.mem_cons_self ..), noX_ok, bind_ok]
    simp only [List.length_cons] at hl
    have h' : ∀ x ∈ r, body x S = .ok (f x) S := fun x hx => h x (List.mem_cons_of_mem _ hx)
    cases hf : f d with
    | none =>
      show compL g body r acc S = _
      rw [compL_pure f hg h' (by omega), List.filterMap_cons, hf]
    | some y =>
      show (if acc.length < sizeLine then compL g body r (acc ++ [y]) S else .bad) = _
      rw [if_pos (by omega), compL_pure f hg h' (by simp; omega), List.filterMap_cons, hf]
      simp
theorem mComp_pure {mi : En → Sto → Rs AI} {vs : List Nat} {g : D → En → Sto → Rs En} {t : En → Sto → Rs Bool} {m : En → Sto → Rs D} {E : En} {S S1 : Sto} {items : List D} {gd : Sto → Prop} (f : D → Option D) (hmi : mi E S = .ok ⟨items, gd, none⟩ S1) (hg : gd S1)
    (hb : ∀ d ∈ items, bodyL vs g t m E d S1 = .ok (f d) S1) (hl : items.length ≤ sizeLine) : mComp mi vs g t m E S = .ok (items.filterMap f) S1 := by
  unfold mComp
  rw [hmi, bind_ok]
  show (compL gd (bodyL vs g t m E) items [] S1).bind _ = _
  rw [compL_pure f hg hb (by simpa using hl)]
  rfl
theorem mComp_lock {mi : En → Sto → Rs AI} {vs : List Nat} {g : D → En → Sto → Rs En} {t : En → Sto → Rs Bool} {m : En → Sto → Rs D} {E : En} {S S1 : Sto} {items : List D} {n : Nat} {kvs : List (Key × D)} (f : D → Option D) (hmi : mi E S = .ok ⟨items, fun S => S[n]? = some (.fd kvs), some n⟩ S1) (hS : S1[n]? = some (.dk kvs))
    (hb : ∀ d ∈ items, bodyL vs g t m E d (S1.set n (.fd kvs)) = .ok (f d) (S1.set n (.fd kvs))) (hl : items.length ≤ sizeLine) : mComp mi vs g t m E S = .ok (items.filterMap f) S1 := by
  have hn := (List.getElem?_eq_some_iff.mp hS).1
  have hS' : (S1.set n (.fd kvs))[n]? = some (.fd kvs) := by simp [hn]
  unfold mComp
  rw [hmi, bind_ok]
  have e : lockS (some n) S1 = S1.set n (.fd kvs) := by unfold lockS; simp only [hS]
  show (compL (fun S => S[n]? = some (.fd kvs)) (bodyL vs g t m E) items [] (lockS (some n) S1)).bind _ = _
  rw [e, compL_pure f hS' hb (by simpa using hl), bind_ok]
  unfold unl
  simp only [hS']
  rw [set_self hS]
  simp
theorem compD_pure {g : Sto → Prop} {body : D → Sto → Rs (Option (Key × D))} {S : Sto} (f : D → Key × D) (hg : g S) : ∀ {items : List D} {acc : List (Key × D)}, (∀ d ∈ items, body d S = .ok (some (f d)) S) → (∀ kvs : List (Key × D), ∀ k d, (setK kvs k d).length ≤ kvs.length + 1) → acc.length + items.length ≤ sizeLine →
    compD g body items acc S = .ok (items.foldl (fun acc d => setK acc (f d).1 (f d).2) acc) S
  | [], acc, _, _, _ => by rw [compD, if_pos hg]; rfl
  | d :: r, acc, h, hk, hl => by
    rw [compD, if_pos hg, h d (List.mem_cons_self ..), noX_ok, bind_ok]
    simp only [List.length_cons] at hl
    show (if acc.length < sizeLine then compD g body r (setK acc (f d).1 (f d).2) S else .bad) = _
    rw [if_pos (by omega), compD_pure f hg (fun x hx => h x (List.mem_cons_of_mem _ hx)) hk (by have := hk acc (f d).1 (f d).2; omega)]
    rfl
theorem setK_len (kvs : List (Key × D)) (k : Key) (d : D) : (setK kvs k d).length ≤ kvs.length + 1 := by
  unfold setK; split <;> simp
theorem mCompD_lock {mi : En → Sto → Rs AI} {vs : List Nat} {g : D → En → Sto → Rs En} {t : En → Sto → Rs Bool} {mk m : En → Sto → Rs D} {E : En} {S S1 : Sto} {items : List D} {n : Nat} {kvs : List (Key × D)} (f : D → Key × D) (hmi : mi E S = .ok ⟨items, fun S => S[n]? = some (.fd kvs), some n⟩ S1) (hS : S1[n]? = some (.dk kvs))
    (hb : ∀ d ∈ items, bodyD vs g t mk m E d (S1.set n (.fd kvs)) = .ok (some (f d)) (S1.set n (.fd kvs))) (hl : items.length ≤ sizeLine) : mCompD mi vs g t mk m E S = .ok (items.foldl (fun acc d => setK acc (f d).1 (f d).2) []) S1 := by
  have hn := (List.getElem?_eq_some_iff.mp hS).1
  have hS' : (S1.set n (.fd kvs))[n]? = some (.fd kvs) := by simp [hn]
  unfold mCompD
  rw [hmi, bind_ok]
  have e : lockS (some n) S1 = S1.set n (.fd kvs) := by unfold lockS; simp only [hS]
  show (compD (fun S => S[n]? = some (.fd kvs)) (bodyD vs g t mk m E) items [] (lockS (some n) S1)).bind _ = _
  rw [e, compD_pure f hS' hb setK_len (by simpa using hl), bind_ok]
  unfold unl
  simp only [hS']
  rw [set_self hS]
/-- a dict filled by new keys only -/
theorem foldl_setK {f : D → Key × D} : ∀ {items : List D} {acc : List (Key × D)}, (acc.map (·.1) ++ items.map fun d => (f d).1).Nodup → items.foldl (fun acc d => setK acc (f d).1 (f d).2) acc = acc ++ items.map f
  | [], acc, _ => by simp
  | d :: r, acc, h => by
    have hn : ¬ (acc.any fun kv => decide (kv.1 = (f d).1)) = true := fun z => by
      obtain ⟨kv, hk, e⟩ := List.any_eq_true.mp z
      have e : kv.1 = (f d).1 := of_decide_eq_true e
      rw [List.map_cons] at h
      exact (List.nodup_append.mp h).2.2 _ (List.mem_map.mpr ⟨kv, hk, rfl⟩) _ (List.mem_cons_self ..) e
    have e : setK acc (f d).1 (f d).2 = acc ++ [f d] := by unfold setK; rw [if_neg hn]
    rw [List.foldl_cons, e, foldl_setK]
    · simp
    · simpa using h
/-! ### loops -/
theorem loop_ind {g : Sto → Prop} {body : D → En → Sto → Rs Fl} (I : Nat → En → Sto → Prop) {items : List D} (hg : ∀ i E S, I i E S → g S)
    (step : ∀ i d E S, items[i]? = some d → I i E S → ∃ E1 S1, body d E S = .ok (.nx E1) S1 ∧ I (i + 1) E1 S1) :
    ∀ (n i : Nat) (E : En) (S : Sto), n = items.length - i → i ≤ items.length → I i E S → ∃ E1 S1, loop g body (items.drop i) E S = .ok (.nx E1) S1 ∧ I items.length E1 S1
  | 0, i, E, S, hn, hi, h => by
    have e : i = items.length := by omega
    subst e
    rw [List.drop_length, loop, if_pos (hg _ _ _ h)]
    exact ⟨E, S, rfl, h⟩
  | n + 1, i, E, S, hn, hi, h => by
    have hlt : i < items.length := by omega
    rw [List.drop_eq_getElem_cons hlt, loop, if_pos (hg _ _ _ h)]
    obtain ⟨E1, S1, e1, h1⟩ := step i items[i] E S (by simp [hlt]) h
    rw [e1, bind_ok]
    exact loop_ind I hg step n (i + 1) E1 S1 (by omega) (by omega) h1
theorem for_ind {mi : En → Sto → Rs AI} {g : D → En → Sto → Rs En} {mb : En → Sto → Rs Fl} {E : En} {S S1 : Sto} {items : List D} {gd : Sto → Prop} (I : Nat → En → Sto → Prop) (hmi : mi E S = .ok ⟨items, gd, none⟩ S1) (h0 : I 0 E S1) (hg : ∀ i E S, I i E S → gd S)
    (step : ∀ i d E S, items[i]? = some d → I i E S → ∃ E1 S1, ((g d E S).bind mb) = .ok (.nx E1) S1 ∧ I (i + 1) E1 S1) : ∃ E1 S2, sFor mi g mb E S = .ok (.nx E1) S2 ∧ I items.length E1 S2 := by
  obtain ⟨E1, S2, e, h⟩ := loop_ind I hg step items.length 0 E S1 (by omega) (by omega) h0
  refine ⟨E1, S2, ?_, h⟩
  unfold sFor
  rw [hmi, bind_ok]
  rw [List.drop_zero] at e
  show (loop gd _ items E S1).bind _ = _
  rw [e]
  rfl
/-! ### primitives at data of known sorts -/
section
variable {S : Sto} {n m : Nat} {i j : Int} {a b : Bool} {x y : Str} {d e : D} {ds es : List D} {kvs : List (Key × D)} {k : Key}
@[simp] theorem ev_C {E : En} : mC d E S = .ok d S := rfl
@[simp] theorem ix_tup : opIx (.tup ds) (.int i) S = match atI ds i with | some d => .ok d S | none => .bad := rfl
@[simp] theorem ix_rl {ns : List Int} : opIx (.rl ns) (.int i) S = match atI ns i with | some d => .ok (.int d) S | none => .bad := rfl
theorem ix_dk (h : S[n]? = some (.dk kvs)) (hk : toKey d = some k) (hg : getK kvs k = some e) : opIx (.ref n) d S = .ok e S := by simp [opIx, h, hk, hg]
theorem ix_fd (h : S[n]? = some (.fd kvs)) (hk : toKey d = some k) (hg : getK kvs k = some e) : opIx (.ref n) d S = .ok e S := by simp [opIx, h, hk, hg]
theorem ix_lst (h : S[n]? = some (.lst ds)) (hg : atI ds i = some e) : opIx (.ref n) (.int i) S = .ok e S := by simp [opIx, h, hg]
@[simp] theorem eq_int : opEq (.int i) (.int j) S = .ok (.bl (decide (i = j))) S := rfl
@[simp] theorem eq_str : opEq (.str x) (.str y) S = .ok (.bl (decide (x = y))) S := rfl
@[simp] theorem eq_bl : opEq (.bl a) (.bl b) S = .ok (.bl (decide (a = b))) S := rfl
@[simp] theorem ne_int : opNe (.int i) (.int j) S = .ok (.bl (!decide (i = j))) S := rfl
@[simp] theorem ne_str : opNe (.str x) (.str y) S = .ok (.bl (!decide (x = y))) S := rfl
@[simp] theorem add_int : opAdd (.int i) (.int j) S = .ok (.int (i + j)) S := rfl
@[simp] theorem add_tup : opAdd (.tup ds) (.tup es) S = if ds.length + es.length ≤ sizeLine then .ok (.tup (ds ++ es)) S else .bad := rfl
@[simp] theorem opI_int {f : Int → Int → Int} : opI f (.int i) (.int j) S = .ok (.int (f i j)) S := rfl
@[simp] theorem sub_int : opSub (.int i) (.int j) S = .ok (.int (i - j)) S := rfl
@[simp] theorem mul_int : opMul (.int i) (.int j) S = if (-(2 ^ 64) < i ∧ i < 2 ^ 64) ∨ (-(2 ^ 64) < j ∧ j < 2 ^ 64) then .ok (.int (i * j)) S else .bad := rfl
@[simp] theorem fdiv_int : opFdiv (.int i) (.int j) S = if 0 < j ∧ j < 1073741824 then .ok (.int (i / j)) S else .bad := rfl
@[simp] theorem mod_int : opMod (.int i) (.int j) S = if 0 < j then .ok (.int (i % j)) S else .bad := rfl
@[simp] theorem pow_int : opPow (.int i) (.int j) S = if 0 ≤ j ∧ j ≤ 1000000 ∧ i.natAbs < 2 ^ 64 then .ok (.int (i ^ j.toNat)) S else .bad := rfl
@[simp] theorem lt_int : opLt (.int i) (.int j) S = .ok (.bl (decide (i < j))) S := rfl
@[simp] theorem le_int : opLe (.int i) (.int j) S = .ok (.bl (decide (i ≤ j))) S := rfl
@[simp] theorem gt_int : opGt (.int i) (.int j) S = .ok (.bl (decide (j < i))) S := rfl
@[simp] theorem ge_int : opGe (.int i) (.int j) S = .ok (.bl (decide (j ≤ i))) S := rfl
@[simp] theorem asB_bl : asB (.bl a) S = .ok a S := rfl
@[simp] theorem truth_bl : truth (.bl a) S = .ok a S := rfl
@[simp] theorem truth_int : truth (.int i) S = .ok (i != 0) S := rfl
@[simp] theorem truth_rl {ns : List Int} : truth (.rl ns) S = .ok (!ns.isEmpty) S := rfl
@[simp] theorem len_tup : fLen [.tup ds] S = .ok (.int ds.length) S := rfl
@[simp] theorem len_rl {ns : List Int} : fLen [.rl ns] S = .ok (.int ns.length) S := rfl
theorem len_lst (h : S[n]? = some (.lst ds)) : fLen [.ref n] S = .ok (.int ds.length) S := by simp [fLen, h]
theorem len_dk (h : S[n]? = some (.dk kvs)) : fLen [.ref n] S = .ok (.int kvs.length) S := by simp [fLen, h]
@[simp] theorem int_bl : fInt [.bl a] S = .ok (.int (if a then 1 else 0)) S := rfl
@[simp] theorem int_int : fInt [.int i] S = .ok (.int i) S := rfl
@[simp] theorem sum_ints {ns : List Int} : fSum (ns.map .int) S = .ok (.int ns.sum) S := by unfold fSum; rw [toInts_map]
@[simp] theorem key_int : toKey (.int i) = some (.inl i) := rfl
@[simp] theorem key_str : toKey (.str x) = some (.inr x) := rfl
theorem set_dk (h : S[n]? = some (.dk kvs)) (hk : toKey d = some k) (hl : kvs.length < sizeLine) : fSet (.ref n) d e S = .ok () (S.set n (.dk (setK kvs k e))) := by simp [fSet, h, hk, hl]
theorem notin_dk (h : S[n]? = some (.dk kvs)) (hk : toKey d = some k) : opNotIn d (.ref n) S = .ok (.bl (!(getK kvs k).isSome)) S := by simp [opNotIn, inD, h, hk]
theorem in_dk (h : S[n]? = some (.dk kvs)) (hk : toKey d = some k) : opIn d (.ref n) S = .ok (.bl (getK kvs k).isSome) S := by simp [opIn, inD, h, hk]
theorem atI_nat {α : Type} {xs : List α} {i : Nat} (h : i < xs.length) : atI xs (i : Int) = xs[i]? := by
  unfold atI ixN
  rw [if_pos (by omega), if_pos (by omega)]
  simp
end
theorem n1_ok {f : List D → Sto → Rs D} {a : En → Sto → Rs D} {E : En} {S S1 : Sto} {x : D} {r : Rs D} (h : a E S = .ok x S1) (h2 : f [x] S1 = r) : mN f (aCons a aNil) E S = r := by
  unfold mN aCons; rw [h, bind_ok]; exact h2
theorem cons_ok {a : En → Sto → Rs D} {t : En → Sto → Rs (List D)} {E : En} {S S1 S2 : Sto} {x : D} {xs : List D} (h : a E S = .ok x S1) (h2 : t E S1 = .ok xs S2) : aCons a t E S = .ok (x :: xs) S2 := by
  unfold aCons; rw [h, bind_ok, h2]; rfl
theorem aug_ok {i : Nat} {m : En → Sto → Rs D} {f : D → D → Sto → Rs D} {E : En} {S S1 S2 : Sto} {x y z : D} (h1 : mV i E S = .ok x S) (h2 : m E S = .ok y S1) (h3 : f x y S1 = .ok z S2) : sAug i m f E S = .ok (.nx (E.set i (some z))) S2 := by
  unfold sAug; rw [h1, bind_ok, h2, bind_ok, h3]; rfl
theorem gS_ok {f : D → D → D → Sto → Rs Unit} {mo mi : En → Sto → Rs D} {E : En} {S S1 S2 S3 : Sto} {o i d : D} (h1 : mo E S = .ok o S1) (h2 : mi E S1 = .ok i S2) (h3 : f o i d S2 = .ok () S3) : gS f mo mi d E S = .ok E S3 := by
  unfold gS; rw [h1, bind_ok, h2, bind_ok, h3]; rfl
/-! ### comprehensions that draw -/
theorem compL_ind {g : Sto → Prop} {body : D → Sto → Rs (Option D)} (I : Nat → List D → Sto → Prop) {items : List D} (hg : ∀ i acc S, I i acc S → g S ∧ acc.length ≤ i)
    (step : ∀ i d acc S, items[i]? = some d → I i acc S → ∃ o S1, body d S = .ok o S1 ∧ I (i + 1) (acc ++ o.toList) S1) (hl : items.length ≤ sizeLine) :
    ∀ (n i : Nat) (acc : List D) (S : Sto), n = items.length - i → i ≤ items.length → I i acc S → ∃ ds S1, compL g body (items.drop i) acc S = .ok ds S1 ∧ I items.length ds S1
  | 0, i, acc, S, hn, hi, h => by
    have e : i = items.length := by omega
    subst e
    rw [List.drop_length, compL, if_pos (hg _ _ _ h).1]
    exact ⟨acc, S, rfl, h⟩
  | n + 1, i, acc, S, hn, hi, h => by
    have hlt : i < items.length := by omega
    rw [List.drop_eq_getElem_cons hlt, compL, if_pos (hg _ _ _ h).1]
    obtain ⟨o, S1, e1, h1⟩ := step i items[i] acc S (by simp [hlt]) h
    rw [e1, noX_ok, bind_ok]
    have hle := (hg _ _ _ h).2
    cases o with
    | none =>
      have h1' : I (i + 1) acc S1 := by simpa using h1
      exact compL_ind I hg step hl n (i + 1) acc S1 (by omega) (by omega) h1'
    | some y =>
      show ∃ ds S2, (if acc.length < sizeLine then compL g body (items.drop (i + 1)) (acc ++ [y]) S1 else .bad) = .ok ds S2 ∧ _
      rw [if_pos (by omega)]
      exact compL_ind I hg step hl n (i + 1) (acc ++ [y]) S1 (by omega) (by omega) h1
theorem mComp_ind {mi : En → Sto → Rs AI} {vs : List Nat} {g : D → En → Sto → Rs En} {t : En → Sto → Rs Bool} {m : En → Sto → Rs D} {E : En} {S S1 : Sto} {items : List D} {gd : Sto → Prop} (I : Nat → List D → Sto → Prop) (hmi : mi E S = .ok ⟨items, gd, none⟩ S1) (h0 : I 0 [] S1) (hg : ∀ i acc S, I i acc S → gd S ∧ acc.length ≤ i)
    (step : ∀ i d acc S, items[i]? = some d → I i acc S → ∃ o S2, bodyL vs g t m E d S = .ok o S2 ∧ I (i + 1) (acc ++ o.toList) S2) (hl : items.length ≤ sizeLine) : ∃ ds S2, mComp mi vs g t m E S = .ok ds S2 ∧ I items.length ds S2 := by
  obtain ⟨ds, S2, e, h⟩ := compL_ind I hg step hl items.length 0 [] S1 (by omega) (by omega) h0
  refine ⟨ds, S2, ?_, h⟩
  unfold mComp
  rw [hmi, bind_ok]
  rw [List.drop_zero] at e
  show (compL gd _ items [] S1).bind _ = _
  rw [e]
  rfl
theorem body_yes {vs : List Nat} {g : D → En → Sto → Rs En} {m : En → Sto → Rs D} {E E1 : En} {d y : D} {S S1 : Sto} (h1 : g d (wipeE vs E) S = .ok E1 S) (h2 : m E1 S = .ok y S1) : bodyL vs g tYesM m E d S = .ok (some y) S1 := by
  have : tYesM E1 S = .ok true S := rfl
  unfold bodyL
  rw [h1, bind_ok, this, bind_ok, if_pos rfl, h2]; rfl
theorem range_get {n i : Nat} {d : D} (h : (rangeD 0 (n : Int))[i]? = some d) : i < n ∧ d = .int (i : Nat) := by
  unfold rangeD at h
  rw [List.getElem?_map] at h
  cases hq : (List.range ((n : Int) - 0).toNat)[i]? with
  | none => rw [hq] at h; cases h
  | some k =>
    rw [hq] at h
    obtain ⟨h1, h2⟩ := List.getElem?_eq_some_iff.mp hq
    rw [List.length_range] at h1
    rw [List.getElem_range] at h2
    subst h2
    exact ⟨by omega, by rw [← Option.some.inj h]; show D.int (0 + (i : Int)) = _; rw [Int.zero_add]⟩
theorem range_len {n : Nat} : (rangeD 0 (n : Int)).length = n := by simp [rangeD]
theorem r1_ok {n : Nat} {S : Sto} (h : n ≤ 1000000) : aiR1 [.int (n : Int)] S = .ok ⟨rangeD 0 (n : Int), fun _ => True, none⟩ S := by
  simp only [aiR1]; rw [if_pos (by omega)]
theorem ad_ok {m : En → Sto → Rs (List D)} {E : En} {S S1 : Sto} {ds : List D} (h : m E S = .ok ds S1) : mAd m E S = .ok (.ref S1.length) (S1 ++ [.lst ds]) := by
  unfold mAd; rw [h]; rfl
theorem lst_ok {t : En → Sto → Rs (List D)} {E : En} {S S1 : Sto} {ds : List D} (h : t E S = .ok ds S1) (hl : ds.length ≤ 1000000) : mLst t E S = .ok (.ref S1.length) (S1 ++ [.lst ds]) := by
  have : (1000000 : Nat) ≤ sizeLine := by decide
  unfold mLst; rw [h, bind_ok, if_pos (by omega)]
theorem tup_ok {t : En → Sto → Rs (List D)} {E : En} {S S1 : Sto} {ds : List D} (h : t E S = .ok ds S1) (hl : ds.length ≤ 1000000) : mTup t E S = .ok (.tup ds) S1 := by
  have : (1000000 : Nat) ≤ sizeLine := by decide
  unfold mTup; rw [h, bind_ok, if_pos (by omega)]
theorem tl_ok {f : List D → Sto → Rs D} {m : En → Sto → Rs (List D)} {E : En} {S S1 : Sto} {ds : List D} {r : Rs D} (h : m E S = .ok ds S1) (h2 : f ds S1 = r) : mTL f m E S = r := by
  unfold mTL; rw [h]; exact h2
/-! ### == of lists, tuples of ints -/
theorem eqvAll_ints : ∀ {xs ys : List Int}, PyData.eqvAll (xs.map .int) (ys.map .int) = decide (xs = ys)
  | [], [] => rfl
  | [], _ :: _ => rfl
  | _ :: _, [] => rfl
  | x :: xs, y :: ys => by
    show ((x == y) && PyData.eqvAll (xs.map .int) (ys.map .int)) = _
    rw [eqvAll_ints]
    by_cases h1 : x = y <;> by_cases h2 : xs = ys <;> simp [h1, h2]
theorem toPys_ints {f : Nat → Option PyData} : ∀ {xs : List Int}, toPysW f (xs.map .int) = some (xs.map .int)
  | [] => rfl
  | x :: xs => by
    show (some (PyData.int x)).bind (fun z => (toPysW f (xs.map .int)).map (z :: ·)) = _
    rw [toPys_ints]; rfl
end M

namespace M
open PySem L2
/-! ### what holds behind a run -/
def Ok {α : Type} (r : Rs α) (Q : α → Sto → Prop) : Prop := match r with
  | .ok a S => Q a S
  | _ => False
section
variable {α β : Type} {r : Rs α} {Q Q' : α → Sto → Prop} {S S1 S2 : Sto} {E : En}
theorem Ok.of {a : α} (h : r = .ok a S) (q : Q a S) : Ok r Q := by rw [h]; exact q
theorem Ok.get (h : Ok r Q) : ∃ a S, r = .ok a S ∧ Q a S := by
  cases r with
  | ok a S => exact ⟨a, S, rfl, h⟩
  | exc c fs S => exact h.elim
  | bad => exact h.elim
theorem Ok.mono (h : Ok r Q) (f : ∀ a S, Q a S → Q' a S) : Ok r Q' := by
  obtain ⟨a, S, rfl, q⟩ := h.get
  exact f a S q
theorem Ok.bind {f : α → Sto → Rs β} {Q : β → Sto → Prop} (h : Ok r fun a S => Ok (f a S) Q) : Ok (r.bind f) Q := by
  obtain ⟨a, S, rfl, q⟩ := h.get
  exact q
end
/-- of a statement: N where it goes on, R where it returns -/
def WS (r : Rs Fl) (N : En → Sto → Prop) (R : D → Sto → Prop) : Prop := match r with
  | .ok (.nx E) S => N E S
  | .ok (.rt d) S => R d S
  | _ => False
section
variable {a b : En → Sto → Rs Fl} {m : En → Sto → Rs D} {t : En → Sto → Rs Bool} {g : D → En → Sto → Rs En} {E : En} {S : Sto} {N N' : En → Sto → Prop} {R R' : D → Sto → Prop} {r : Rs Fl}
theorem WS.of {E1 : En} {S1 : Sto} (h : r = .ok (.nx E1) S1) (q : N E1 S1) : WS r N R := by rw [h]; exact q
theorem WS.mono (h : WS r N R) (f : ∀ E S, N E S → N' E S) (f' : ∀ d S, R d S → R' d S) : WS r N' R' := by
  match r, h with
  | .ok (.nx E) S, h => exact f E S h
  | .ok (.rt d) S, h => exact f' d S h
theorem WS.get (h : WS r N (fun _ _ => False)) : ∃ E S, r = .ok (.nx E) S ∧ N E S := by
  match r, h with
  | .ok (.nx E) S, h => exact ⟨E, S, rfl, h⟩
theorem WS.bind {α : Type} {q : Rs α} {f : α → Sto → Rs Fl} (h : Ok q fun x S => WS (f x S) N R) : WS (q.bind f) N R := by
  obtain ⟨x, S, rfl, h⟩ := h.get
  exact h
theorem ws_seq (h : WS (a E S) (fun E1 S1 => WS (b E1 S1) N R) R) : WS (sSeq a b E S) N R := by
  unfold sSeq
  match a E S, h with
  | .ok (.nx E1) S1, h => exact h
  | .ok (.rt d) S1, h => exact h
theorem ws_asg (h : Ok (m E S) fun d S1 => Ok (g d E S1) N) : WS (sAsg m g E S) N R := by
  obtain ⟨d, S1, e, h⟩ := h.get
  obtain ⟨E1, S2, e2, h⟩ := h.get
  rw [asg_ok e e2]
  exact h
theorem ws_expr (h : Ok (m E S) fun _ S1 => N E S1) : WS (sExpr m E S) N R := by
  obtain ⟨d, S1, e, h⟩ := h.get
  unfold sExpr; rw [e]; exact h
theorem ws_if (h : Ok (t E S) fun c S1 => (c = true → WS (a E S1) N R) ∧ (c = false → WS (b E S1) N R)) : WS (sIf t a b E S) N R := by
  obtain ⟨c, S1, e, h1, h2⟩ := h.get
  cases c with
  | true => rw [if_yes e rfl]; exact h1 rfl
  | false => rw [if_no e rfl]; exact h2 rfl
theorem ws_no (h : Ok (t E S) fun c S1 => c = false ∧ WS (b E S1) N R) : WS (sIf t a b E S) N R :=
  ws_if (h.mono fun c S1 h => ⟨(fun z => by rw [h.1] at z; cases z), fun _ => h.2⟩)
theorem ws_yes (h : Ok (t E S) fun c S1 => c = true ∧ WS (a E S1) N R) : WS (sIf t a b E S) N R :=
  ws_if (h.mono fun c S1 h => ⟨fun _ => h.2, (fun z => by rw [h.1] at z; cases z)⟩)
theorem ws_ret (h : Ok (m E S) R) : WS (sRet m E S) N R := by
  obtain ⟨d, S1, e, h⟩ := h.get
  rw [ret_ok e]; exact h
theorem ws_nil (h : N E S) : WS (sNil E S) N R := h
theorem ws_aug {i : Nat} {f : D → D → Sto → Rs D} {x : D} (hx : mV i E S = .ok x S) (h : Ok (m E S) fun y S1 => Ok (f x y S1) fun z S2 => N (E.set i (some z)) S2) : WS (sAug i m f E S) N R := by
  obtain ⟨y, S1, e, h⟩ := h.get
  obtain ⟨z, S2, e2, h⟩ := h.get
  rw [aug_ok hx e e2]
  exact h
theorem ws_par {i j : Nat} {t : En → Sto → Rs (List D)} (h : Ok (t E S) fun ds S1 => ∃ x y, ds = [x, y] ∧ N ((E.set i (some x)).set j (some y)) S1) : WS (sPar i j t E S) N R := by
  obtain ⟨ds, S1, e, x, y, rfl, h⟩ := h.get
  unfold sPar; rw [e]; exact h
theorem ws_par3 {i j l : Nat} {t : En → Sto → Rs (List D)} (h : Ok (t E S) fun ds S1 => ∃ x y z, ds = [x, y, z] ∧ N (((E.set i (some x)).set j (some y)).set l (some z)) S1) : WS (sPar3 i j l t E S) N R := by
  obtain ⟨ds, S1, e, x, y, z, rfl, h⟩ := h.get
  unfold sPar3; rw [e]; exact h
theorem loop_ws {gd : Sto → Prop} {body : D → En → Sto → Rs Fl} (I : Nat → En → Sto → Prop) {items : List D} (hg : ∀ i E S, I i E S → gd S)
    (step : ∀ i d E S, items[i]? = some d → I i E S → WS (body d E S) (I (i + 1)) R) :
    ∀ (n i : Nat) (E : En) (S : Sto), n = items.length - i → i ≤ items.length → I i E S → WS (loop gd body (items.drop i) E S) (I items.length) R
  | 0, i, E, S, hn, hi, h => by
    have e : i = items.length := by omega
    subst e
    rw [List.drop_length, loop, if_pos (hg _ _ _ h)]
    exact h
  | n + 1, i, E, S, hn, hi, h => by
    have hlt : i < items.length := by omega
    rw [List.drop_eq_getElem_cons hlt, loop, if_pos (hg _ _ _ h)]
    have h1 := step i items[i] E S (by simp [hlt]) h
    match body items[i] E S, h1 with
    | .ok (.nx E1) S1, h1 => exact loop_ws I hg step n (i + 1) E1 S1 (by omega) (by omega) h1
    | .ok (.rt d) S1, h1 => exact h1
/-- a loop by an invariant -/
theorem ws_for {mi : En → Sto → Rs AI} {items : List D} {gd : Sto → Prop} {S1 : Sto} (I : Nat → En → Sto → Prop) (hmi : mi E S = .ok ⟨items, gd, none⟩ S1) (h0 : I 0 E S1) (hg : ∀ i E S, I i E S → gd S)
    (step : ∀ i d E S, items[i]? = some d → I i E S → Ok (g d E S) fun E1 S1 => WS (b E1 S1) (I (i + 1)) R) (hN : ∀ E S, I items.length E S → N E S) : WS (sFor mi g b E S) N R := by
  have h := loop_ws (R := R) (body := fun d E S => (g d E S).bind b) I hg (fun i d E S hi h => WS.bind (step i d E S hi h)) items.length 0 E S1 (by omega) (by omega) h0
  rw [List.drop_zero] at h
  unfold sFor
  rw [hmi, bind_ok]
  show WS ((loop gd _ items E S1).bind fun fl S2 => unl none fl S2) N R
  match loop gd (fun d E S => (g d E S).bind b) items E S1, h with
  | .ok (.nx E1) S2, h => exact hN _ _ h
  | .ok (.rt d) S2, h => exact h
theorem ok_mdef {n : Nat} {mb : En → Sto → Rs Fl} {ds : List D} {Q : D → Sto → Prop} (h : WS (mb (startE n ds) S) (fun _ S1 => Ok (gc S.length .non S1) Q) (fun d S1 => Ok (gc S.length d S1) Q)) : Ok (mDef n mb ds S) Q := by
  unfold mDef
  match mb (startE n ds) S, h with
  | .ok (.nx E1) S1, h => exact h
  | .ok (.rt d) S1, h => exact h
end
section
variable {a b m : En → Sto → Rs D} {t u : En → Sto → Rs Bool} {ts : En → Sto → Rs (List D)} {E : En} {S : Sto} {Q : D → Sto → Prop} {B : Bool → Sto → Prop} {L : List D → Sto → Prop}
theorem ok_2 {f : D → D → Sto → Rs D} (h : Ok (a E S) fun x S1 => Ok (b E S1) fun y S2 => Ok (f x y S2) Q) : Ok (m2 f a b E S) Q := by
  obtain ⟨x, S1, e, h⟩ := h.get
  obtain ⟨y, S2, e2, h⟩ := h.get
  rw [m2_ok e e2 rfl]; exact h
theorem ok_1 {f : D → Sto → Rs D} (h : Ok (a E S) fun x S1 => Ok (f x S1) Q) : Ok (m1 f a E S) Q := h.bind
theorem ok_N {f : List D → Sto → Rs D} (h : Ok (ts E S) fun x S1 => Ok (f x S1) Q) : Ok (mN f ts E S) Q := h.bind
theorem ok_call {n : Nat} {f : List D → Sto → Rs D} (h : Ok (ts E S) fun ds S1 => ds.length = n ∧ Ok (f ds S1) Q) : Ok (mN (mCl n f) ts E S) Q := by
  obtain ⟨ds, S1, e, hl, h⟩ := h.get
  obtain ⟨d, S2, e2, h⟩ := h.get
  rw [call_ok e hl e2]; exact h
theorem ok_cons (h : Ok (a E S) fun x S1 => Ok (ts E S1) fun xs S2 => L (x :: xs) S2) : Ok (aCons a ts E S) L := by
  obtain ⟨x, S1, e, h⟩ := h.get
  obtain ⟨y, S2, e2, h⟩ := h.get
  rw [cons_ok e e2]; exact h
theorem ok_nil (h : L [] S) : Ok (aNil E S) L := h
theorem ok_tup (h : Ok (ts E S) fun ds S1 => ds.length ≤ 1000000 ∧ Q (.tup ds) S1) : Ok (mTup ts E S) Q := by
  obtain ⟨ds, S1, e, hl, h⟩ := h.get
  rw [tup_ok e hl]; exact h
theorem ok_lst (h : Ok (ts E S) fun ds S1 => ds.length ≤ 1000000 ∧ Q (.ref S1.length) (S1 ++ [.lst ds])) : Ok (mLst ts E S) Q := by
  obtain ⟨ds, S1, e, hl, h⟩ := h.get
  rw [lst_ok e hl]; exact h
theorem ok_tl {f : List D → Sto → Rs D} (h : Ok (ts E S) fun ds S1 => Ok (f ds S1) Q) : Ok (mTL f ts E S) Q := h.bind
theorem ok_ad (h : Ok (ts E S) fun ds S1 => Q (.ref S1.length) (S1 ++ [.lst ds])) : Ok (mAd ts E S) Q := by
  obtain ⟨ds, S1, e, h⟩ := h.get
  rw [ad_ok e]; exact h
theorem ok_B (h : Ok (m E S) fun d S1 => ∃ c, d = .bl c ∧ B c S1) : Ok (tB m E S) B := by
  obtain ⟨d, S1, e, c, rfl, h⟩ := h.get
  rw [tB_ok e]; exact h
theorem ok_or (h : Ok (t E S) fun c S1 => (c = true → B true S1) ∧ (c = false → Ok (u E S1) B)) : Ok (tOrM t u E S) B := by
  obtain ⟨c, S1, e, h1, h2⟩ := h.get
  unfold tOrM; rw [e]
  cases c with
  | true => exact h1 rfl
  | false => exact h2 rfl
theorem ok_and (h : Ok (t E S) fun c S1 => (c = false → B false S1) ∧ (c = true → Ok (u E S1) B)) : Ok (tAndM t u E S) B := by
  obtain ⟨c, S1, e, h1, h2⟩ := h.get
  unfold tAndM; rw [e]
  cases c with
  | false => exact h1 rfl
  | true => exact h2 rfl
theorem ok_not (h : Ok (t E S) fun c S1 => B (!c) S1) : Ok (tNotM t E S) B := h.bind
theorem ok_ifE (h : Ok (t E S) fun c S1 => (c = true → Ok (a E S1) Q) ∧ (c = false → Ok (b E S1) Q)) : Ok (mIfE t a b E S) Q := by
  obtain ⟨c, S1, e, h1, h2⟩ := h.get
  unfold mIfE; rw [e]
  cases c with
  | true => exact h1 rfl
  | false => exact h2 rfl
/-- no of two -/
theorem ok_or_no (h : Ok (t E S) fun c S1 => c = false ∧ Ok (u E S1) fun c S2 => c = false ∧ B false S2) : Ok (tOrM t u E S) B := by
  obtain ⟨c, S1, e, rfl, h⟩ := h.get
  obtain ⟨c, S2, e2, rfl, h⟩ := h.get
  unfold tOrM; rw [e, bind_ok, if_neg (by simp), e2]
  exact h
theorem gc_all {n : Nat} {d : D} : Ok (gc n d S) fun d' S' => d' = d := by
  unfold gc; split <;> exact rfl
end
end M
namespace M
theorem mN_ok {f : List D → Sto → Rs D} {t : En → Sto → Rs (List D)} {E : En} {S S1 : Sto} {ds : List D} {r : Rs D} (h : t E S = .ok ds S1) (h2 : f ds S1 = r) : mN f t E S = r := by
  unfold mN; rw [h]; exact h2
theorem not_no {a : En → Sto → Rs Bool} {E : En} {S S1 : Sto} (h : a E S = .ok true S1) : tNotM a E S = .ok false S1 := by
  unfold tNotM; rw [h]; rfl
end M
namespace M
open PySem L2
/-- a loop over a dict by tuples, which is locked meanwhile -/
theorem ws_forN {mi : En → Sto → Rs AI} {g : D → En → Sto → Rs En} {b : En → Sto → Rs Fl} {E : En} {S S1 : Sto} {N : En → Sto → Prop} {R : D → Sto → Prop} {items : List D} {n : Nat} {kvs : List (NestedKey × D)} (I : Nat → En → Sto → Prop)
    (hmi : mi E S = .ok ⟨items, fun S => S[n]? = some (.fn kvs), some n⟩ S1) (hS : S1[n]? = some (.dn kvs)) (h0 : I 0 E (S1.set n (.fn kvs))) (hg : ∀ i E S, I i E S → S[n]? = some (.fn kvs))
    (step : ∀ i d E S, items[i]? = some d → I i E S → Ok (g d E S) fun E1 S1 => WS (b E1 S1) (I (i + 1)) (fun _ _ => False)) (hN : ∀ E S, I items.length E S → N E (S.set n (.dn kvs))) : WS (sFor mi g b E S) N R := by
  have h := loop_ws (R := fun _ _ => False) (body := fun d E S => (g d E S).bind b) (gd := fun S => S[n]? = some (.fn kvs)) I hg (fun i d E S hi h => WS.bind (step i d E S hi h)) items.length 0 E (S1.set n (.fn kvs)) (by omega) (by omega) h0
  rw [List.drop_zero] at h
  obtain ⟨E2, S2, e2, h2⟩ := h.get
  have el : lockS (some n) S1 = S1.set n (.fn kvs) := by unfold lockS; simp only [hS]
  have eu : unl (some n) (Fl.nx E2) S2 = .ok (.nx E2) (S2.set n (.dn kvs)) := by unfold unl; simp only [hg _ _ _ h2]
  unfold sFor
  rw [hmi, bind_ok]
  show WS ((loop (fun S => S[n]? = some (.fn kvs)) _ items E (lockS (some n) S1)).bind fun fl S2 => unl (some n) fl S2) N R
  rw [el, e2, bind_ok, eu]
  exact hN _ _ h2
end M

namespace M
/-! ### who drops what is used last moves least -/
theorem ite_iff {p q : Prop} [Decidable p] [Decidable q] {α : Type} {a b : α} (h : p ↔ q) : (if p then a else b) = if q then a else b := by
  by_cases hp : p
  · rw [if_pos hp, if_pos (h.mp hp)]
  · rw [if_neg hp, if_neg fun z => hp (h.mpr z)]
def cn (n : Int → Nat) (k : Nat) (C : List Int) : Nat := (C.filter fun x => decide (n x < k)).length
theorem nodup_len : ∀ {A B : List Int}, A.Nodup → (∀ x ∈ A, x ∈ B) → A.length ≤ B.length
  | [], B, _, _ => Nat.zero_le _
  | x :: A, B, hn, h => by
    rw [List.nodup_cons] at hn
    have hx : x ∈ B := h x (List.mem_cons_self ..)
    have h2 : ∀ y ∈ A, y ∈ B.erase x := fun y hy => by
      have hne : y ≠ x := fun z => hn.1 (z ▸ hy)
      exact (List.mem_erase_of_ne hne).mpr (h y (List.mem_cons_of_mem _ hy))
    have := nodup_len hn.2 h2
    rw [List.length_erase_of_mem hx] at this
    have : 0 < B.length := List.length_pos_of_mem hx
    simp only [List.length_cons]
    omega
theorem filter_split {p : Int → Bool} {r : Int} : ∀ {C : List Int}, C.Nodup → (C.filter p).length = (C.filter fun x => x != r && p x).length + (if r ∈ C ∧ p r = true then 1 else 0)
  | [], _ => by simp
  | x :: C, hn => by
    rw [List.nodup_cons] at hn
    have ih := filter_split (p := p) (r := r) hn.2
    rw [List.filter_cons, List.filter_cons]
    by_cases hx : x = r
    · subst hx
      rw [if_neg (fun z => hn.1 z.1)] at ih
      cases hp : p x with
      | true => simp [hp, ih]
      | false => simp [hp, ih]
    · have h1 : (x != r) = true := by simpa using hx
      have h2 : (r ∈ x :: C ∧ p r = true) ↔ (r ∈ C ∧ p r = true) := by
        constructor
        · rintro ⟨z, w⟩
          rcases List.mem_cons.mp z with z | z
          · exact absurd z.symm hx
          · exact ⟨z, w⟩
        · rintro ⟨z, w⟩
          exact ⟨List.mem_cons_of_mem _ z, w⟩
      rw [ite_iff h2]
      cases hp : p x with
      | true => simp only [h1, hp, Bool.and_self, if_true, List.length_cons]; omega
      | false => simp only [h1, hp, Bool.and_false, Bool.false_eq_true, if_false]; omega
/-- the others among them that are used ahead of k -/
def an (n : Int → Nat) (r : Int) (k : Nat) (C : List Int) : Nat := (C.filter fun x => x != r && decide (n x < k)).length
theorem cn_split {n : Int → Nat} {r : Int} {k : Nat} {C : List Int} (h : C.Nodup) : cn n k C = an n r k C + (if r ∈ C ∧ n r < k then 1 else 0) := by
  unfold cn an
  rw [filter_split (r := r) h]
  congr 1
  exact ite_iff (by simp)
theorem an_congr {n m : Int → Nat} {r : Int} {k : Nat} {C : List Int} (h : ∀ x, x ≠ r → n x = m x) : an n r k C = an m r k C := by
  unfold an
  congr 1
  refine List.filter_congr fun x _ => ?_
  by_cases hx : x = r
  · rw [hx]; simp
  · rw [h x hx]
theorem an_sub {n : Int → Nat} {r : Int} {k : Nat} {A B : List Int} (hn : A.Nodup) (h : ∀ x ∈ A, x = r ∨ x ∈ B) : an n r k A ≤ an n r k B := by
  unfold an
  refine nodup_len (List.Nodup.sublist List.filter_sublist hn) fun x hx => ?_
  obtain ⟨h1, h2⟩ := List.mem_filter.mp hx
  rw [Bool.and_eq_true] at h2
  rcases h x h1 with rfl | h3
  · simp at h2
  · exact List.mem_filter.mpr ⟨h3, by rw [Bool.and_eq_true]; exact h2⟩
theorem an_le {n : Int → Nat} {r : Int} {k : Nat} {A : List Int} : an n r k A ≤ (A.filter fun x => x != r).length := by
  unfold an
  have : (A.filter fun x => x != r && decide (n x < k)) = (A.filter fun x => x != r).filter fun x => decide (n x < k) := by
    rw [List.filter_filter]
    refine List.filter_congr fun x _ => ?_
    rw [Bool.and_comm]
  rw [this]
  exact List.length_filter_le ..
theorem an_zero {n : Int → Nat} {r : Int} {k : Nat} {A : List Int} (h : ∀ x, k ≤ n x) : an n r k A = 0 := by
  unfold an
  rw [List.length_eq_zero_iff, List.filter_eq_nil_iff]
  intro x _ z
  rw [Bool.and_eq_true] at z
  have := of_decide_eq_true z.2
  have := h x
  omega
theorem an_all {n : Int → Nat} {r : Int} {k : Nat} {A : List Int} (hr : r ∉ A) (h : ∀ x ∈ A, n x < k) : an n r k A = A.length := by
  unfold an
  congr 1
  rw [List.filter_eq_self]
  intro x hx
  rw [Bool.and_eq_true]
  exact ⟨bne_iff_ne.mpr fun z => hr (z ▸ hx), decide_eq_true (h x hx)⟩
theorem an_snoc {n : Int → Nat} {r : Int} {k : Nat} {A : List Int} : an n r k (A ++ [r]) = an n r k A := by
  unfold an
  rw [List.filter_append]
  simp
theorem length_drop1 {g : Int} : ∀ {A : List Int}, A.Nodup → g ∈ A → (A.filter fun x => x != g).length + 1 = A.length
  | [], _, h => by cases h
  | x :: A, hn, h => by
    rw [List.nodup_cons] at hn
    rw [List.filter_cons]
    by_cases hx : x = g
    · subst hx
      have : A.filter (fun y => y != x) = A := by
        rw [List.filter_eq_self]
        intro y hy
        exact bne_iff_ne.mpr fun z => hn.1 (z ▸ hy)
      simp [this]
    · have h1 : (x != g) = true := by simpa using hx
      rw [if_pos h1]
      have := length_drop1 hn.2 (by rcases List.mem_cons.mp h with z | z; exact absurd z.symm hx; exact z)
      simp only [List.length_cons]
      omega
theorem an_drop {n : Int → Nat} {r g : Int} {k : Nat} {A : List Int} (hg : ¬ n g < k) : an n r k (A.filter fun x => x != g) = an n r k A := by
  unfold an
  rw [List.filter_filter]
  congr 1
  refine List.filter_congr fun x _ => ?_
  by_cases hx : x = g
  · subst hx; simp [hg]
  · have : (x != g) = true := by simpa using hx
    rw [this, Bool.and_true]
theorem step_inv {nb na : Int → Nat} {t : Nat} {r : Int} (hb : nb r = t) (hs : ∀ x, x ≠ r → nb x = na x) (hge : ∀ x, t + 1 ≤ na x) {room f f' f1' : Nat} {C C' C1 C1' : List Int} (nC : C.Nodup) (nC' : C'.Nodup) (nC1' : C1'.Nodup)
    (sub : ∀ x ∈ C1', x = r ∨ x ∈ C') (oth : (C1'.filter fun x => x != r).length + 1 ≤ room) (hf : f' + (if r ∈ C' then 0 else 1) ≤ f1') (old : ∀ k, f + cn nb k C' ≤ f' + cn nb k C)
    (hC : (r ∈ C ∧ C1 = C) ∨ (r ∉ C ∧ C1 = C ++ [r]) ∨ (r ∉ C ∧ C.length = room ∧ ∃ g ∈ C, (∀ y ∈ C, na y ≤ na g) ∧ C1 = (C.filter fun x => x != g) ++ [r])) :
    ∀ k, (f + if r ∈ C then 0 else 1) + cn na k C1' ≤ f1' + cn na k C1 := by
  intro k
  have o0 : f ≤ f' := by
    have := old 0
    have z : ∀ A, cn nb 0 A = 0 := fun A => by unfold cn; simp
    rw [z, z] at this
    omega
  have hab : ∀ A, an nb r k A = an na r k A := fun A => an_congr hs
  have c1' := cn_split (n := na) (r := r) (k := k) nC1'
  have i1 : (if r ∈ C1' ∧ na r < k then 1 else 0) ≤ (if na r < k then 1 else 0) := by
    by_cases h : na r < k
    · rw [if_pos h]; split <;> omega
    · rw [if_neg h, if_neg fun z => h z.2]; exact Nat.le_refl _
  have s1 := an_sub (n := na) (r := r) (k := k) nC1' sub
  have l1 := an_le (n := na) (r := r) (k := k) (A := C1')
  -- one step of the other at the threshold t + 1
  have o1 : f + (if r ∈ C' then 1 else 0) ≤ f' + (if r ∈ C then 1 else 0) := by
    have := old (t + 1)
    rw [cn_split (r := r) nC', cn_split (r := r) nC, an_congr hs, an_congr hs, an_zero hge, an_zero hge] at this
    have e1 : (if r ∈ C' ∧ nb r < t + 1 then 1 else 0) = if r ∈ C' then 1 else 0 := ite_iff (by rw [hb]; simp)
    have e2 : (if r ∈ C ∧ nb r < t + 1 then 1 else 0) = if r ∈ C then 1 else 0 := ite_iff (by rw [hb]; simp)
    rw [e1, e2] at this
    omega
  by_cases hk : t < k
  · have ok := old k
    rw [cn_split (r := r) nC', cn_split (r := r) nC, hab, hab] at ok
    have e1 : (if r ∈ C' ∧ nb r < k then 1 else 0) = if r ∈ C' then 1 else 0 := ite_iff (by rw [hb]; simp [hk])
    have e2 : (if r ∈ C ∧ nb r < k then 1 else 0) = if r ∈ C then 1 else 0 := ite_iff (by rw [hb]; simp [hk])
    rw [e1, e2] at ok
    rcases hC with ⟨hr, rfl⟩ | ⟨hr, rfl⟩ | ⟨hr, hl, g, hg, hgm, rfl⟩
    · rw [if_pos hr] at ok ⊢
      rw [c1', cn_split (r := r) nC]
      have e3 : (if r ∈ C1 ∧ na r < k then 1 else 0) = if na r < k then 1 else 0 := ite_iff (by simp [hr])
      rw [e3]
      split at hf <;> simp_all <;> omega
    · rw [if_neg hr] at ok o1 ⊢
      have nC1 : (C ++ [r]).Nodup := by
        rw [List.nodup_append]
        exact ⟨nC, by simp, fun a ha b hb2 z => by rw [List.mem_singleton] at hb2; exact hr (hb2 ▸ z ▸ ha)⟩
      rw [c1', cn_split (r := r) nC1, an_snoc]
      have e3 : (if r ∈ C ++ [r] ∧ na r < k then 1 else 0) = if na r < k then 1 else 0 := ite_iff (by simp)
      rw [e3]
      by_cases hr' : r ∈ C'
      · rw [if_pos hr'] at ok hf; omega
      · rw [if_neg hr'] at ok hf; omega
    · rw [if_neg hr] at ok o1 ⊢
      have nF : (C.filter fun x => x != g).Nodup := List.Nodup.sublist List.filter_sublist nC
      have nC1 : ((C.filter fun x => x != g) ++ [r]).Nodup := by
        rw [List.nodup_append]
        exact ⟨nF, by simp, fun a ha b hb2 z => by rw [List.mem_singleton] at hb2; exact hr (hb2 ▸ z ▸ (List.mem_filter.mp ha).1)⟩
      rw [c1', cn_split (r := r) nC1, an_snoc]
      have e3 : (if r ∈ (C.filter fun x => x != g) ++ [r] ∧ na r < k then 1 else 0) = if na r < k then 1 else 0 := ite_iff (by simp)
      rw [e3]
      have key : f + 1 ≤ f1' := by
        by_cases hr' : r ∈ C'
        · rw [if_pos hr'] at o1 hf; omega
        · rw [if_neg hr'] at o1 hf; omega
      by_cases hgk : na g < k
      · have ha : an na r k (C.filter fun x => x != g) + 1 = room := by
          rw [an_all (fun z => hr (List.mem_filter.mp z).1) (fun x hx => Nat.lt_of_le_of_lt (hgm x (List.mem_filter.mp hx).1) hgk), length_drop1 nC hg, hl]
        omega
      · rw [an_drop hgk]
        by_cases hr' : r ∈ C'
        · rw [if_pos hr'] at ok hf; omega
        · rw [if_neg hr'] at ok hf; omega
  · have z : ∀ A, cn na k A = 0 := fun A => by
      unfold cn
      rw [List.length_eq_zero_iff, List.filter_eq_nil_iff]
      intro x _ w
      have := of_decide_eq_true w
      have := hge x
      omega
    rw [z, z]
    by_cases hr : r ∈ C
    · rw [if_pos hr]; omega
    · rw [if_neg hr] at o1 ⊢
      by_cases hr' : r ∈ C'
      · rw [if_pos hr'] at o1 hf; omega
      · rw [if_neg hr'] at o1 hf; omega
end M

namespace M
namespace K33
open PySem L2
abbrev prog : Program := PySem.Challenge.pw_bankloops_k33_rules
def top (i : Nat) : Stmt := prog.main.body.getD i (.Pass ⟨0, 0, 0, 0⟩)
def c_RULES : D := .tup [.str "first", .str "old", .str "far"]
abbrev s_next_use : Stmt := top 17
theorem sc_next_use : FnScope ["trace", "at", "line", "place"] ["trace", "at", "line"] (defScope s_next_use) := ⟨rfl, rfl, rfl, by decide +kernel, rfl, by decide +kernel, by decide +kernel⟩
noncomputable def b_next_use : En → Sto → Rs Fl := sSeq (sFor (fun E S => ((aCons (m2 opAdd (mV 1) (mC (.int 1))) (aCons (mN fLen (aCons (mV 0) (aNil))) (aNil))) E S).bind aiR2) (gN 3) (sIf (tB (m2 opEq (m2 opIx (m2 opIx (mV 0) (mV 3)) (mC (.int 0))) (mV 2))) (sRet (mV 3)) (sNil))) (sRet (mN fLen (aCons (mV 0) (aNil))))
noncomputable def m_next_use : List D → Sto → Rs D := mDef 4 (b_next_use)
theorem ok_next_use {P : Program} {w : World} {K : PySem.W.Frag} {mg : Str → Option Value} {base : Heap} (F : ∃ fd, FunD K "next_use" "next_use" (defArgs s_next_use) (defBody s_next_use) (defScope s_next_use) [] [] (He.ga K "next_use") fd) (hm : mg "next_use" = some (.ref (He.ga K "next_use"))) (f_range : mg "range" = none) (f_len : mg "len" = none) :
    DefAt P w K mg base 1 "next_use" 3 m_next_use :=
  defAt (k := 0) (mb := b_next_use) F hm sc_next_use (fun _ _ _ _ _ _ us hl => match us, hl with | [_, _, _], _ => rfl) fun A outer s H E hr => by
    exact mss_cons (ms_for PassesOwn.never rfl (mi_range2 rfl f_range (ma_cons (me_op or_add pr_add (mv 1) (me_int)) (ma_cons (me_callB cr_len pr_len rfl f_len PySem.boot_len (ma_cons (mv 0) (ma_nil))) (ma_nil)))) (mg_name (i := 3) sc_next_use.nd rfl (by first | exact Or.inl rfl | exact Or.inr rfl)) (mss_one (ms_if (mt_cmp (or_eq hr.units) pr_eq (me_ix (or_ix (hu_of hr)) pr_ix (me_ix (or_ix (hu_of hr)) pr_ix (mv 0) (mv 3) (fun _ _ => rfl)) (me_int) (fun _ _ => rfl)) (mv 2) (by rfl)) (mss_one (ms_ret (mv 3))) (mss_nil)))) (mss_one (ms_ret (me_callB cr_len pr_len rfl f_len PySem.boot_len (ma_cons (mv 0) (ma_nil)))))
abbrev s_goes : Stmt := top 18
theorem sc_goes : FnScope ["trace", "at", "store", "rule", "kept", "far", "line"] ["trace", "at", "store", "rule"] (defScope s_goes) := ⟨rfl, rfl, rfl, by decide +kernel, rfl, by decide +kernel, by decide +kernel⟩
noncomputable def b_goes (P_goes : Addr) : En → Sto → Rs Fl := sSeq (sIf (tB (m2 opEq (mV 3) (mC (.str "far")))) (sSeq (sAsg (mAdD (mCompD (iA (mV 2)) [6] (gN 6) (tYesM) (mV 6) (mN (mCl 3 m_next_use) (aCons (mV 0) (aCons (mV 1) (aCons (mV 6) (aNil))))))) (gN 5)) (sRet (mTL fMin (mComp (iA (mV 2)) [6] (gN 6) (tB (m2 opEq (m2 opIx (mV 5) (mV 6)) (m1 fMaxV (mV 5)))) (mV 6))))) (sNil)) (sSeq (sAsg (mIfE (tB (m2 opEq (mV 3) (mC (.str "first")))) (mC (.int 0)) (mC (.int 1))) (gN 4)) (sRet (mMinKey P_goes "goes.<locals>.<lambda>" 0 6 (mV 2) (m2 opIx (m2 opIx (mV 2) (mV 6)) (mV 4)))))
noncomputable def m_goes (P_goes : Addr) : List D → Sto → Rs D := mDef 7 (b_goes P_goes)
theorem ok_goes {P : Program} {w : World} {K : PySem.W.Frag} {mg : Str → Option Value} {base : Heap} {P_goes : Addr} (F : ∃ fd, FunD K "goes" "goes" (defArgs s_goes) (defBody s_goes) (defScope s_goes) [] [] (He.ga K "goes") fd) (hm : mg "goes" = some (.ref (He.ga K "goes"))) (D_next_use : DefAt P w K mg base 1 "next_use" 3 m_next_use) (f_min : mg "min" = none) (f_max : mg "max" = none) (T_goes : LamX.TabB base mg (He.codeOf K ("goes", none)) P_goes) :
    DefAt P w K mg base 3 "goes" 4 (m_goes P_goes) :=
  defAt (k := 2) (mb := b_goes P_goes) F hm sc_goes (fun _ _ _ _ _ _ us hl => match us, hl with | [_, _, _, _], _ => rfl) fun A outer s H E hr => by
    exact mss_cons (ms_if (mt_cmp (or_eq hr.units) pr_eq (mv 3) (me_str) (by rfl)) (mss_cons (ms_set (i := 5) sc_goes.nd rfl (by first | exact Or.inl rfl | exact Or.inr rfl) (me_adD (td_dc (own := [("line", 6)]) rfl sc_goes.nd (mi_any (mv 2)) (blkOk_by (by kernel_rfl)) (fun _ _ _ _ _ => mgo_name (i := 6) (by decide) sc_goes.nd rfl (by first | exact Or.inl rfl | exact Or.inr rfl)) (fun _ _ _ _ _ => mts_nil) (fun _ _ _ _ _ => mv 6) (fun _ _ _ _ _ => me_cl D_next_use hr (by decide) rfl (ma_cons (mv 0) (ma_cons (mv 1) (ma_cons (mv 6) (ma_nil)))))))) (mss_one (ms_ret (me_tlB (cr_min rfl) pr_minTL rfl f_min PyProof.Rows.boot_min (tl_lc (own := [("line", 6)]) rfl sc_goes.nd (mi_any (mv 2)) (blkOk_by (by kernel_rfl)) (fun _ _ _ _ _ => mgo_name (i := 6) (by decide) sc_goes.nd rfl (by first | exact Or.inl rfl | exact Or.inr rfl)) (fun _ _ _ _ _ => mts_one (mt_cmp (or_eq hr.units) pr_eq (me_ix (or_ix (hu_of hr)) pr_ix (mv 5) (mv 6) (fun _ _ => rfl)) (me_maxV rfl rfl f_max (mv 5)) (by rfl))) (fun _ _ _ _ _ => mv 6)))))) (mss_nil)) (mss_cons (ms_set (i := 4) sc_goes.nd rfl (by first | exact Or.inl rfl | exact Or.inr rfl) (me_if (mt_cmp (or_eq hr.units) pr_eq (mv 3) (me_str) (by rfl)) (me_int) (me_int))) (mss_one (ms_ret (me_minKey (k := 0) (ti := 0) rfl rfl f_min (mv 2) T_goes rfl (lamS1_by (by kernel_rfl)) sc_goes.nd (i := 6) rfl rfl (fun _ _ _ _ _ _ => rfl) ((Room.mono hr (by decide)).in1) (fun A outer s H E f c2 hr2 => me_ix (or_ix (hu_of hr2)) pr_ix (me_ix (or_ix (hu_of hr2)) pr_ix (mv 2) (mv 6) (fun _ _ => rfl)) (mv 4) (fun _ _ => rfl))))))
abbrev s_moves_by : Stmt := top 19
theorem sc_moves_by : FnScope ["trace", "room", "rule", "store", "fetches", "puts", "at", "line", "writes", "came", "used", "dirty", "row"] ["trace", "room", "rule"] (defScope s_moves_by) := ⟨rfl, rfl, rfl, by decide +kernel, rfl, by decide +kernel, by decide +kernel⟩
noncomputable def b_moves_by (P_goes : Addr) : En → Sto → Rs Fl := sSeq (sIf (tB (m2 opNotIn (mV 2) (mC c_RULES))) (sExc "BadRule") (sNil)) (sSeq (sPar3 3 4 5 (aCons (mDnew) (aCons (mC (.int 0)) (aCons (mC (.int 0)) (aNil))))) (sSeq (sFor (iEn (aCons (mV 0) (aNil))) (gT 2 (gCons (gN 6) (gCons (gT 2 (gCons (gN 7) (gCons (gN 8) (gNil)))) (gNil)))) (sSeq (sIf (tB (m2 opNotIn (mV 7) (mV 3))) (sSeq (sIf (tB (m2 opEq (mN fLen (aCons (mV 3) (aNil))) (mV 1))) (sAug 5 (mN fInt (aCons (m2 opIx (mPop (mV 3) (mN (mCl 4 (m_goes P_goes)) (aCons (mV 0) (aCons (mV 6) (aCons (mV 3) (aCons (mV 2) (aNil))))))) (mC (.int 2))) (aNil))) (opI fun i j => i + j)) (sNil)) (sSeq (sAsg (mTup (aCons (mV 6) (aCons (mV 6) (aCons (mC (.bl false)) (aNil))))) (gS fSet (mV 3) (mV 7))) (sAug 4 (mC (.int 1)) (opI fun i j => i + j)))) (sNil)) (sSeq (sAsg (m2 opIx (mV 3) (mV 7)) (gT 3 (gCons (gN 9) (gCons (gN 10) (gCons (gN 11) (gNil)))))) (sAsg (mTup (aCons (mV 9) (aCons (mV 6) (aCons (vOr (mV 11) (mV 8)) (aNil))))) (gS fSet (mV 3) (mV 7)))))) (sRet (mTup (aCons (mV 4) (aCons (m2 opAdd (mV 5) (mTL fSum (mComp (fun E S => ((mV 3) E S).bind aiVals) [12] (gN 12) (tYesM) (mN fInt (aCons (m2 opIx (mV 12) (mC (.int 2))) (aNil)))))) (aNil)))))))
noncomputable def m_moves_by (P_goes : Addr) : List D → Sto → Rs D := mDef 13 (b_moves_by P_goes)
theorem ok_moves_by {P : Program} {w : World} {K : PySem.W.Frag} {mg : Str → Option Value} {base : Heap} {P_goes : Addr} (F : ∃ fd, FunD K "moves_by" "moves_by" (defArgs s_moves_by) (defBody s_moves_by) (defScope s_moves_by) [] [] (He.ga K "moves_by") fd) (hm : mg "moves_by" = some (.ref (He.ga K "moves_by"))) (hg_RULES : ∃ a, mg "RULES" = some (.ref a) ∧ ∀ p H, RD ⟨K, P, w⟩ p H c_RULES (.ref a)) (g_BadRule : mg "BadRule" = some (.ref (He.ga K "BadRule"))) (e_BadRule : PySem.W.excIn K (He.ga K "BadRule") He.veBase "ValueError.__new__" = true ∧ PySem.W.keepIn K (.ref (He.ga K "BadRule")) = true ∧ PySem.W.subIn K (.ref (He.ga K "BadRule")) (.type "BaseException") = some true ∧ PySem.W.typeIn K (.ref (He.ga K "BadRule")) = some (.type "type")) (f_enumerate : mg "enumerate" = none) (f_len : mg "len" = none) (f_int : mg "int" = none) (D_goes : DefAt P w K mg base 3 "goes" 4 (m_goes P_goes)) (f_sum : mg "sum" = none) :
    DefXK P w K mg base 4 "moves_by" s_moves_by ["trace", "room", "rule"] (m_moves_by P_goes) :=
  defAtXK (k := 3) (mb := b_moves_by P_goes) F hm sc_moves_by (fun _ _ _ _ _ _ us hl => match us, hl with | [_, _, _], _ => rfl) fun A outer s H E hr => by
    exact mss_cons (ms_if (mt_cmp (or_notin (hu_of hr)) pr_notin (mv 2) (me_gl hg_RULES rfl) (by rfl)) (mss_one (ms_raise rfl takes_cx e_BadRule g_BadRule rfl)) (mss_nil)) (mss_cons (ms_par3 (i := 3) (j := 4) (l := 5) rfl sc_moves_by.nd rfl rfl rfl (by decide) (by decide) (by decide) rfl rfl rfl (ma_cons (me_dnew) (ma_cons (me_int) (ma_cons (me_int) (ma_nil)))) (by rfl)) (mss_cons (ms_for (passes_of rfl) rfl (mi_enum rfl f_enumerate (ma_cons (mv 0) (ma_nil))) (mg_tup rfl (mgs_cons (mg_name (i := 6) sc_moves_by.nd rfl (by first | exact Or.inl rfl | exact Or.inr rfl)) (mgs_cons (mg_tup rfl (mgs_cons (mg_name (i := 7) sc_moves_by.nd rfl (by first | exact Or.inl rfl | exact Or.inr rfl)) (mgs_cons (mg_name (i := 8) sc_moves_by.nd rfl (by first | exact Or.inl rfl | exact Or.inr rfl)) (mgs_nil)))) (mgs_nil)))) (mss_cons (ms_if (mt_cmp (or_notin (hu_of hr)) pr_notin (mv 7) (mv 3) (by rfl)) (mss_cons (ms_if (mt_cmp (or_eq hr.units) pr_eq (me_callB cr_len pr_len rfl f_len PySem.boot_len (ma_cons (mv 3) (ma_nil))) (mv 1) (by rfl)) (mss_one (ms_aug (i := 5) pr_iadd sc_moves_by.nd rfl (by first | exact Or.inl rfl | exact Or.inr rfl) (me_callTy call_int1 pr_int1 rfl f_int PyProof.Rows.boot_int (ma_cons (me_ix (or_ix (hu_of hr)) pr_ix (me_pop (mv 3) (me_cl D_goes hr (by decide) rfl (ma_cons (mv 0) (ma_cons (mv 6) (ma_cons (mv 3) (ma_cons (mv 2) (ma_nil)))))) ⟨rfl, rfl, rfl, rfl⟩) (me_int) (fun _ _ => rfl)) (ma_nil))) iop_add)) (mss_nil)) (mss_cons (ms_asg (me_tup (ma_cons (mv 6) (ma_cons (mv 6) (ma_cons (me_bl) (ma_nil))))) (mg_sub pr_set (mv 3) (mv 7) (set_any (hu_of hr)))) (mss_one (ms_aug (i := 4) pr_iadd sc_moves_by.nd rfl (by first | exact Or.inl rfl | exact Or.inr rfl) (me_int) iop_add)))) (mss_nil)) (mss_cons (ms_asg (me_ix (or_ix (hu_of hr)) pr_ix (mv 3) (mv 7) (fun _ _ => rfl)) (mg_tup rfl (mgs_cons (mg_name (i := 9) sc_moves_by.nd rfl (by first | exact Or.inl rfl | exact Or.inr rfl)) (mgs_cons (mg_name (i := 10) sc_moves_by.nd rfl (by first | exact Or.inl rfl | exact Or.inr rfl)) (mgs_cons (mg_name (i := 11) sc_moves_by.nd rfl (by first | exact Or.inl rfl | exact Or.inr rfl)) (mgs_nil)))))) (mss_one (ms_asg (me_tup (ma_cons (mv 9) (ma_cons (mv 6) (ma_cons (me_or (mv 11) (me_one (mv 8))) (ma_nil))))) (mg_sub pr_set (mv 3) (mv 7) (set_any (hu_of hr)))))))) (mss_one (ms_ret (me_tup (ma_cons (mv 4) (ma_cons (me_op or_add pr_add (mv 5) (me_tlB (cr_sum rfl) pr_sumTL rfl f_sum PyProof.Rows.boot_sum (tl_lc (own := [("row", 12)]) rfl sc_moves_by.nd (mi_vals (mv 3)) (blkOk_by (by kernel_rfl)) (fun _ _ _ _ _ => mgo_name (i := 12) (by decide) sc_moves_by.nd rfl (by first | exact Or.inl rfl | exact Or.inr rfl)) (fun _ _ _ _ _ => mts_nil) (fun _ _ _ _ _ => me_callTy call_int1 pr_int1 rfl f_int PyProof.Rows.boot_int (ma_cons (me_ix (or_ix (hu_of hr)) pr_ix (mv 12) (me_int) (fun _ _ => rfl)) (ma_nil)))))) (ma_nil))))))))
abbrev s__law_heard : Stmt := top 21
theorem sc__law_heard : FnScope ["deed", "refused", "found", "e", "some", "names", "word"] ["deed"] (defScope s__law_heard) := ⟨rfl, rfl, rfl, by decide +kernel, rfl, by decide +kernel, by decide +kernel⟩
noncomputable def h__law_heard : En → Sto → Rs Fl := sSeq (sIf (tB (m2 (opIsN false) (mV 1) (mC .non))) (sRet (mTup (aCons (mC (.str "told")) (aCons (mV 2) (aNil))))) (sNil)) (sSeq (sAsg (mDisp [(mC (.str "no instance"), m1 (fIsX (subL [("BadRule", false)])) (mV 1)), (mC (.str "no cell"), m1 (fIsX (subL [("BadRule", false)])) (mV 1))]) (gN 4)) (sSeq (sExpr (mMethD fUpd (mV 4) (aCons (mDisp [(mC (.str "bad order"), m1 (fIsX (subL [("BadRule", false)])) (mV 1)), (mC (.str "bad plan"), m1 (fIsX (subL [("BadRule", false)])) (mV 1))]) (aNil)))) (sSeq (sExpr (mMethD fUpd (mV 4) (aCons (mDisp [(mC (.str "bad rule"), m1 (fIsX (subL [("BadRule", true)])) (mV 1)), (mC (.str "bad nest"), m1 (fIsX (subL [("BadRule", false)])) (mV 1))]) (aNil)))) (sSeq (sExpr (mMethD fUpd (mV 4) (aCons (mDisp [(mC (.str "bad layout"), m1 (fIsX (subL [("BadRule", false)])) (mV 1)), (mC (.str "bad size"), m1 (fIsX (subL [("BadRule", false)])) (mV 1))]) (aNil)))) (sSeq (sExpr (mMethD fUpd (mV 4) (aCons (mDisp [(mC (.str "no tiling"), m1 (fIsX (subL [("BadRule", false)])) (mV 1)), (mC (.str "no back"), m1 (fIsX (subL [("BadRule", false)])) (mV 1))]) (aNil)))) (sSeq (sAsg (m1 (fIsX (subL [("BadRule", false)])) (mV 1)) (gS fSet (mV 4) (mC (.str "no text")))) (sSeq (sIf (tV (m1 (fIsX (subL [("BadRule", false)])) (mV 1))) (sBad) (sNil)) (sSeq (sIf (tV (m1 (fIsX (subL [("BadRule", false)])) (mV 1))) (sBad) (sNil)) (sSeq (sAsg (mAd (mComp (iA (mV 4)) [6] (gN 6) (tV (m2 opIx (mV 4) (mV 6))) (mV 6))) (gN 5)) (sRet (mIfE (tAndM (tB (m2 opEq (mN fLen (aCons (mV 5) (aNil))) (mC (.int 1)))) (tV (m1 (fIsX (subL [("BadRule", true)])) (mV 1)))) (mTup (aCons (m2 opIx (mV 5) (mC (.int 0))) (aNil))) (mTup (aCons (mC (.str "is wrong")) (aNil))))))))))))))
theorem ok__law_heard {P : Program} {w : World} {K : PySem.W.Frag} {mg : Str → Option Value} {base : Heap} (F : ∃ fd, FunD K "_law_heard" "_law_heard" (defArgs s__law_heard) (defBody s__law_heard) (defScope s__law_heard) [] [] (He.ga K "_law_heard") fd) (hm : mg "_law_heard" = some (.ref (He.ga K "_law_heard"))) (g_LoopError : mg "LoopError" = some (.ref (He.ga K "LoopError"))) (x_ok : okB K ["BadRule"] "LoopError" = true) (f_isinstance : mg "isinstance" = none) (g_NoInstance : mg "NoInstance" = some (.ref (He.ga K "NoInstance"))) (x_NoInstance : isxL K [("BadRule", false)] (.ref (He.ga K "NoInstance")) = true) (g_NoCell : mg "NoCell" = some (.ref (He.ga K "NoCell"))) (x_NoCell : isxL K [("BadRule", false)] (.ref (He.ga K "NoCell")) = true) (g_BadOrder : mg "BadOrder" = some (.ref (He.ga K "BadOrder"))) (x_BadOrder : isxL K [("BadRule", false)] (.ref (He.ga K "BadOrder")) = true) (g_BadPlan : mg "BadPlan" = some (.ref (He.ga K "BadPlan"))) (x_BadPlan : isxL K [("BadRule", false)] (.ref (He.ga K "BadPlan")) = true) (g_BadRule : mg "BadRule" = some (.ref (He.ga K "BadRule"))) (x_BadRule : isxL K [("BadRule", true)] (.ref (He.ga K "BadRule")) = true) (g_BadNest : mg "BadNest" = some (.ref (He.ga K "BadNest"))) (x_BadNest : isxL K [("BadRule", false)] (.ref (He.ga K "BadNest")) = true) (g_BadLayout : mg "BadLayout" = some (.ref (He.ga K "BadLayout"))) (x_BadLayout : isxL K [("BadRule", false)] (.ref (He.ga K "BadLayout")) = true) (g_BadSize : mg "BadSize" = some (.ref (He.ga K "BadSize"))) (x_BadSize : isxL K [("BadRule", false)] (.ref (He.ga K "BadSize")) = true) (g_NoTiling : mg "NoTiling" = some (.ref (He.ga K "NoTiling"))) (x_NoTiling : isxL K [("BadRule", false)] (.ref (He.ga K "NoTiling")) = true) (g_NoBack : mg "NoBack" = some (.ref (He.ga K "NoBack"))) (x_NoBack : isxL K [("BadRule", false)] (.ref (He.ga K "NoBack")) = true) (g_NoText : mg "NoText" = some (.ref (He.ga K "NoText"))) (x_NoText : isxL K [("BadRule", false)] (.ref (He.ga K "NoText")) = true) (g_TooMuch : mg "TooMuch" = some (.ref (He.ga K "TooMuch"))) (x_TooMuch : isxL K [("BadRule", false)] (.ref (He.ga K "TooMuch")) = true) (g_Broken : mg "Broken" = some (.ref (He.ga K "Broken"))) (x_Broken : isxL K [("BadRule", false)] (.ref (He.ga K "Broken")) = true) (f_len : mg "len" = none) (f_ValueError : mg "ValueError" = none) (x_ValueError : isxL K [("BadRule", true)] (.type "ValueError") = true) :
    DefH P w K mg base 5 "_law_heard" 7 (okL ["BadRule"]) h__law_heard := by
  refine heard_ok (rest := h__law_heard) (st := s__law_heard) F hm sc__law_heard (fun _ _ _ _ _ _ us hl => match us, hl with | [_], _ => rfl) rfl rfl rfl rfl (by first | exact Or.inl rfl | exact Or.inr rfl) rfl rfl rfl rfl rfl rfl g_LoopError rfl (okB_ok x_ok) rfl ?_ ?_ (fun _ => rfl) (fun _ => rfl)
  · intro A outer s H hr
    have e : sPar 1 2 (aCons (mC .non) (aCons (mC .non) aNil)) = (sAsg (mTup (aCons (mC .non) (aCons (mC .non) (aNil)))) (gT 2 (gCons (gN 1) (gCons (gN 2) (gNil))))) := by funext E S; rfl
    rw [e]
    exact ms_asg (me_tup (ma_cons (me_non) (ma_cons (me_non) (ma_nil)))) (mg_tup rfl (mgs_cons (mg_name (i := 1) sc__law_heard.nd rfl (by first | exact Or.inl rfl | exact Or.inr rfl)) (mgs_cons (mg_name (i := 2) sc__law_heard.nd rfl (by first | exact Or.inl rfl | exact Or.inr rfl)) (mgs_nil))))
  · intro A outer s H hr
    exact mss_cons (ms_if (mt_cmp op_isN pr_isN (mv 1) (me_non) (by rfl)) (mss_one (ms_ret (me_tup (ma_cons (me_str) (ma_cons (mv 2) (ma_nil)))))) (mss_nil)) (mss_cons (ms_set (i := 4) sc__law_heard.nd rfl (by first | exact Or.inl rfl | exact Or.inr rfl) (me_disp (ms := [(mC (.str "no instance"), m1 (fIsX (subL [("BadRule", false)])) (mV 1)), (mC (.str "no cell"), m1 (fIsX (subL [("BadRule", false)])) (mV 1))]) (pps_cons (me_str) (me_isX rfl f_isinstance (mv 1) rfl g_NoInstance (isxL_ok x_NoInstance)) (pps_cons (me_str) (me_isX rfl f_isinstance (mv 1) rfl g_NoCell (isxL_ok x_NoCell)) (pps_nil))) rfl rfl (by simp) (by decide))) (mss_cons (ms_expr (me_upd (mv 4) (ma_cons (me_disp (ms := [(mC (.str "bad order"), m1 (fIsX (subL [("BadRule", false)])) (mV 1)), (mC (.str "bad plan"), m1 (fIsX (subL [("BadRule", false)])) (mV 1))]) (pps_cons (me_str) (me_isX rfl f_isinstance (mv 1) rfl g_BadOrder (isxL_ok x_BadOrder)) (pps_cons (me_str) (me_isX rfl f_isinstance (mv 1) rfl g_BadPlan (isxL_ok x_BadPlan)) (pps_nil))) rfl rfl (by simp) (by decide)) (ma_nil)))) (mss_cons (ms_expr (me_upd (mv 4) (ma_cons (me_disp (ms := [(mC (.str "bad rule"), m1 (fIsX (subL [("BadRule", true)])) (mV 1)), (mC (.str "bad nest"), m1 (fIsX (subL [("BadRule", false)])) (mV 1))]) (pps_cons (me_str) (me_isX rfl f_isinstance (mv 1) rfl g_BadRule (isxL_ok x_BadRule)) (pps_cons (me_str) (me_isX rfl f_isinstance (mv 1) rfl g_BadNest (isxL_ok x_BadNest)) (pps_nil))) rfl rfl (by simp) (by decide)) (ma_nil)))) (mss_cons (ms_expr (me_upd (mv 4) (ma_cons (me_disp (ms := [(mC (.str "bad layout"), m1 (fIsX (subL [("BadRule", false)])) (mV 1)), (mC (.str "bad size"), m1 (fIsX (subL [("BadRule", false)])) (mV 1))]) (pps_cons (me_str) (me_isX rfl f_isinstance (mv 1) rfl g_BadLayout (isxL_ok x_BadLayout)) (pps_cons (me_str) (me_isX rfl f_isinstance (mv 1) rfl g_BadSize (isxL_ok x_BadSize)) (pps_nil))) rfl rfl (by simp) (by decide)) (ma_nil)))) (mss_cons (ms_expr (me_upd (mv 4) (ma_cons (me_disp (ms := [(mC (.str "no tiling"), m1 (fIsX (subL [("BadRule", false)])) (mV 1)), (mC (.str "no back"), m1 (fIsX (subL [("BadRule", false)])) (mV 1))]) (pps_cons (me_str) (me_isX rfl f_isinstance (mv 1) rfl g_NoTiling (isxL_ok x_NoTiling)) (pps_cons (me_str) (me_isX rfl f_isinstance (mv 1) rfl g_NoBack (isxL_ok x_NoBack)) (pps_nil))) rfl rfl (by simp) (by decide)) (ma_nil)))) (mss_cons (ms_asg (me_isX rfl f_isinstance (mv 1) rfl g_NoText (isxL_ok x_NoText)) (mg_sub pr_set (mv 4) (me_str) (set_any (hu_of hr)))) (mss_cons (ms_if (mt_truth (me_isX rfl f_isinstance (mv 1) rfl g_TooMuch (isxL_ok x_TooMuch))) (mss_one (ms_bad)) (mss_nil)) (mss_cons (ms_if (mt_truth (me_isX rfl f_isinstance (mv 1) rfl g_Broken (isxL_ok x_Broken))) (mss_one (ms_bad)) (mss_nil)) (mss_cons (ms_setLc (i := 5) (own := [("word", 6)]) rfl sc__law_heard.nd rfl rfl (sw_true rfl rfl rfl (by kernel_rfl)) (mi_any (mv 4)) (blkOk_by (by kernel_rfl)) (fun _ _ _ _ _ => mgo_name (i := 6) (by decide) sc__law_heard.nd rfl (by first | exact Or.inl rfl | exact Or.inr rfl)) (fun _ _ _ _ _ => mts_one (mt_truth (me_ix (or_ix (hu_of hr)) pr_ix (mv 4) (mv 6) (fun _ _ => rfl)))) (fun _ _ _ _ _ => mv 6)) (mss_one (ms_ret (me_if (PW.pt (mw_and (mt_cmp (or_eq hr.units) pr_eq (me_callB cr_len pr_len rfl f_len PySem.boot_len (ma_cons (mv 5) (ma_nil))) (me_int) (by rfl)) (mw_and1 (mt_truth (me_isXB rfl f_isinstance (mv 1) rfl f_ValueError (by decide +kernel) (isxL_ok x_ValueError)))))) (me_tup (ma_cons (me_ix (or_ix (hu_of hr)) pr_ix (mv 5) (me_int) (fun _ _ => rfl)) (ma_nil))) (me_tup (ma_cons (me_str) (ma_nil)))))))))))))))
abbrev s__law_draw : Stmt := top 22
theorem sc__law_draw : FnScope ["script", "town", "many", "at", "rest", "number"] ["script", "town", "many"] (defScope s__law_draw) := ⟨rfl, rfl, rfl, by decide +kernel, rfl, by decide +kernel, by decide +kernel⟩
noncomputable def b__law_draw : En → Sto → Rs Fl := sSeq (sAsg (m2 opAdd (m2 opIx (mV 1) (mC (.str "count"))) (mC (.int 1))) (gS fSet (mV 1) (mC (.str "count")))) (sSeq (sAsg (mIfE (tV (mV 0)) (m2 opMod (m2 opIx (mV 1) (mC (.str "count"))) (mN fLen (aCons (mV 0) (aNil)))) (mC (.int 0))) (gN 3)) (sSeq (sAsg (mGet2 (m2 opIx (mV 1) (mC (.str "rests"))) (mV 3) (mIfE (tV (mV 0)) (m2 opIx (mV 0) (mV 3)) (mC (.int 0)))) (gN 4)) (sSeq (sIf (tB (m2 opGe (mV 4) (m2 opPow (mC (.int 10)) (mC (.int 18))))) (sSeq (sAsg (m2 opFdiv (mV 4) (mV 2)) (gS fSet (m2 opIx (mV 1) (mC (.str "rests"))) (mV 3))) (sRet (m2 opMod (mV 4) (mV 2)))) (sNil)) (sSeq (sAsg (m2 opMod (m2 opAdd (mV 4) (m2 opMul (mC (.int 104729)) (m2 opIx (mV 1) (mC (.str "count"))))) (mC (.int 4294967291))) (gN 5)) (sSeq (sAsg (m2 opMod (m2 opPow (mV 5) (mC (.int 5))) (mC (.int 4294967279))) (gN 5)) (sRet (m2 opMod (m2 opFdiv (m2 opMod (m2 opAdd (m2 opMul (m2 opFdiv (mV 5) (mC (.int 64))) (mC (.int 69621))) (mV 5)) (mC (.int 4294967231))) (mC (.int 8))) (mV 2))))))))
noncomputable def m__law_draw : List D → Sto → Rs D := mDef 6 (b__law_draw)
theorem ok__law_draw {P : Program} {w : World} {K : PySem.W.Frag} {mg : Str → Option Value} {base : Heap} (F : ∃ fd, FunD K "_law_draw" "_law_draw" (defArgs s__law_draw) (defBody s__law_draw) (defScope s__law_draw) [] [] (He.ga K "_law_draw") fd) (hm : mg "_law_draw" = some (.ref (He.ga K "_law_draw"))) (f_len : mg "len" = none) :
    DefAt P w K mg base 1 "_law_draw" 3 m__law_draw :=
  defAt (k := 0) (mb := b__law_draw) F hm sc__law_draw (fun _ _ _ _ _ _ us hl => match us, hl with | [_, _, _], _ => rfl) fun A outer s H E hr => by
    exact mss_cons (ms_asg (me_op or_add pr_add (me_ix (or_ix (hu_of hr)) pr_ix (mv 1) (me_str) (fun _ _ => rfl)) (me_int)) (mg_sub pr_set (mv 1) (me_str) (set_any (hu_of hr)))) (mss_cons (ms_set (i := 3) sc__law_draw.nd rfl (by first | exact Or.inl rfl | exact Or.inr rfl) (me_if (mt_truth (mv 0)) (me_op op_mod pr_mod (me_ix (or_ix (hu_of hr)) pr_ix (mv 1) (me_str) (fun _ _ => rfl)) (me_callB cr_len pr_len rfl f_len PySem.boot_len (ma_cons (mv 0) (ma_nil)))) (me_int))) (mss_cons (ms_set (i := 4) sc__law_draw.nd rfl (by first | exact Or.inl rfl | exact Or.inr rfl) (me_get2 (hu_of hr) (me_ix (or_ix (hu_of hr)) pr_ix (mv 1) (me_str) (fun _ _ => rfl)) (mv 3) (me_if (mt_truth (mv 0)) (me_ix (or_ix (hu_of hr)) pr_ix (mv 0) (mv 3) (fun _ _ => rfl)) (me_int)) ⟨rfl, rfl, rfl, rfl⟩)) (mss_cons (ms_if (mt_cmp op_ge pr_ge (mv 4) (me_op op_pow pr_pow (me_int) (me_int)) (by rfl)) (mss_cons (ms_asg (me_op op_fdiv pr_fdiv (mv 4) (mv 2)) (mg_sub pr_set (me_ix (or_ix (hu_of hr)) pr_ix (mv 1) (me_str) (fun _ _ => rfl)) (mv 3) (set_any (hu_of hr)))) (mss_one (ms_ret (me_op op_mod pr_mod (mv 4) (mv 2))))) (mss_nil)) (mss_cons (ms_set (i := 5) sc__law_draw.nd rfl (by first | exact Or.inl rfl | exact Or.inr rfl) (me_op op_mod pr_mod (me_op or_add pr_add (mv 4) (me_op op_mul pr_mul (me_int) (me_ix (or_ix (hu_of hr)) pr_ix (mv 1) (me_str) (fun _ _ => rfl)))) (me_int))) (mss_cons (ms_set (i := 5) sc__law_draw.nd rfl (by first | exact Or.inl rfl | exact Or.inr rfl) (me_op op_mod pr_mod (me_op op_pow pr_pow (mv 5) (me_int)) (me_int))) (mss_one (ms_ret (me_op op_mod pr_mod (me_op op_fdiv pr_fdiv (me_op op_mod pr_mod (me_op or_add pr_add (me_op op_mul pr_mul (me_op op_fdiv pr_fdiv (mv 5) (me_int)) (me_int)) (mv 5)) (me_int)) (me_int)) (mv 2)))))))))
abbrev s__law_begun : Stmt := top 23
theorem sc__law_begun : FnScope [] [] (defScope s__law_begun) := ⟨rfl, rfl, rfl, by decide +kernel, rfl, by decide +kernel, by decide +kernel⟩
noncomputable def b__law_begun : En → Sto → Rs Fl := sRet (mDisp [(mC (.str "count"), mC (.int 0)), (mC (.str "rests"), mDnew)])
noncomputable def m__law_begun : List D → Sto → Rs D := mDef 0 (b__law_begun)
theorem ok__law_begun {P : Program} {w : World} {K : PySem.W.Frag} {mg : Str → Option Value} {base : Heap} (F : ∃ fd, FunD K "_law_begun" "_law_begun" (defArgs s__law_begun) (defBody s__law_begun) (defScope s__law_begun) [] [] (He.ga K "_law_begun") fd) (hm : mg "_law_begun" = some (.ref (He.ga K "_law_begun")))  :
    DefAt P w K mg base 1 "_law_begun" 0 m__law_begun :=
  defAt (k := 0) (mb := b__law_begun) F hm sc__law_begun (fun _ _ _ _ _ _ us hl => match us, hl with | [], _ => rfl) fun A outer s H E hr => by
    exact mss_one (ms_ret (me_disp (ms := [(mC (.str "count"), mC (.int 0)), (mC (.str "rests"), mDnew)]) (pps_cons (me_str) (me_int) (pps_cons (me_str) (me_dnew) (pps_nil))) rfl rfl (by simp) (by decide)))
abbrev s__law_a_trace : Stmt := top 24
theorem sc__law_a_trace : FnScope ["script", "town", "many", "lines", "size", "k"] ["script", "town", "many", "lines"] (defScope s__law_a_trace) := ⟨rfl, rfl, rfl, by decide +kernel, rfl, by decide +kernel, by decide +kernel⟩
noncomputable def b__law_a_trace : En → Sto → Rs Fl := sSeq (sAsg (mN (mCl 3 m__law_draw) (aCons (mV 0) (aCons (mV 1) (aCons (m2 opAdd (mV 2) (mC (.int 1))) (aNil))))) (gN 4)) (sRet (mTL fTupTL (mComp (fun E S => ((aCons (mV 4) (aNil)) E S).bind aiR1) [5] (gN 5) (tYesM) (mTup (aCons (mN (mCl 3 m__law_draw) (aCons (mV 0) (aCons (mV 1) (aCons (mV 3) (aNil))))) (aCons (m2 opEq (mN (mCl 3 m__law_draw) (aCons (mV 0) (aCons (mV 1) (aCons (mC (.int 3)) (aNil))))) (mC (.int 0))) (aNil)))))))
noncomputable def m__law_a_trace : List D → Sto → Rs D := mDef 6 (b__law_a_trace)
theorem ok__law_a_trace {P : Program} {w : World} {K : PySem.W.Frag} {mg : Str → Option Value} {base : Heap} (F : ∃ fd, FunD K "_law_a_trace" "_law_a_trace" (defArgs s__law_a_trace) (defBody s__law_a_trace) (defScope s__law_a_trace) [] [] (He.ga K "_law_a_trace") fd) (hm : mg "_law_a_trace" = some (.ref (He.ga K "_law_a_trace"))) (D__law_draw : DefAt P w K mg base 1 "_law_draw" 3 m__law_draw) (f_tuple : mg "tuple" = none) (f_range : mg "range" = none) :
    DefAt P w K mg base 2 "_law_a_trace" 4 m__law_a_trace :=
  defAt (k := 1) (mb := b__law_a_trace) F hm sc__law_a_trace (fun _ _ _ _ _ _ us hl => match us, hl with | [_, _, _, _], _ => rfl) fun A outer s H E hr => by
    exact mss_cons (ms_set (i := 4) sc__law_a_trace.nd rfl (by first | exact Or.inl rfl | exact Or.inr rfl) (me_cl D__law_draw hr (by decide) rfl (ma_cons (mv 0) (ma_cons (mv 1) (ma_cons (me_op or_add pr_add (mv 2) (me_int)) (ma_nil)))))) (mss_one (ms_ret (me_tlTy call_tuple_of pr_tupTL rfl f_tuple PyProof.Rows.boot_tuple (tl_lc (own := [("k", 5)]) rfl sc__law_a_trace.nd (mi_range1 rfl f_range (ma_cons (mv 4) (ma_nil))) (blkOk_by (by kernel_rfl)) (fun _ _ _ _ _ => mgo_name (i := 5) (by decide) sc__law_a_trace.nd rfl (by first | exact Or.inl rfl | exact Or.inr rfl)) (fun _ _ _ _ _ => mts_nil) (fun _ _ _ _ _ => me_tup (ma_cons (me_cl D__law_draw hr (by decide) rfl (ma_cons (mv 0) (ma_cons (mv 1) (ma_cons (mv 3) (ma_nil))))) (ma_cons (me_cmp (or_eq hr.units) pr_eq (me_cl D__law_draw hr (by decide) rfl (ma_cons (mv 0) (ma_cons (mv 1) (ma_cons (me_int) (ma_nil))))) (me_int) (by rfl)) (ma_nil))))))))
abbrev s__law_moves : Stmt := top 25
theorem sc__law_moves : FnScope ["trace", "room", "rule_here", "came", "used", "dirty", "fetches", "puts", "place", "line", "writes", "gone", "behind", "far", "one", "other"] ["trace", "room", "rule_here"] (defScope s__law_moves) := ⟨rfl, rfl, rfl, by decide +kernel, rfl, by decide +kernel, by decide +kernel⟩
noncomputable def w__law_moves_2 : En → Sto → Rs Fl := sSeq (sIf (tB (m2 opNotIn (mV 9) (mV 3))) (sSeq (sIf (tB (m2 opEq (mN fLen (aCons (mV 3) (aNil))) (mV 1))) (sSeq (sAsg (mIfE (tB (m2 opEq (mV 2) (mC (.str "first")))) (m2 opIx (mV 3) (mC (.int 0))) (m2 opIx (mV 4) (mC (.int 0)))) (gN 11)) (sSeq (sIf (tB (m2 opEq (mV 2) (mC (.str "far")))) (sSeq (sAsg (mAd (mComp (iA (mSl (mV 0) (oSome (m2 opAdd (mV 8) (mC (.int 1)))) (oNone))) [14, 15] (gT 2 (gCons (gN 14) (gCons (gN 15) (gNil)))) (tYesM) (mV 14))) (gN 12)) (sSeq (sAsg (mAd (mComp (iA (mV 3)) [14] (gN 14) (tYesM) (mTup (aCons (mIfE (tB (m2 opIn (mV 14) (mV 12))) (m2 opSub (mC (.int 0)) (mMeth fIndexL (mV 12) (aCons (mV 14) (aNil)))) (m1 opNeg (mC (.int 9999)))) (aCons (mV 14) (aNil)))))) (gN 13)) (sAsg (m2 opIx (mN fMinP (aCons (mV 13) (aNil))) (mC (.int 1))) (gN 11)))) (sNil)) (sSeq (sExpr (mMeth fRemove (mV 3) (aCons (mV 11) (aNil)))) (sSeq (sExpr (mMeth fRemove (mV 4) (aCons (mV 11) (aNil)))) (sSeq (sAsg (m2 opAdd (mV 7) (mMeth fCountL (mV 5) (aCons (mV 11) (aNil)))) (gN 7)) (sAsg (mAd (mComp (iA (mV 5)) [14] (gN 14) (tB (m2 opNe (mV 14) (mV 11))) (mV 14))) (gN 5))))))) (sNil)) (sSeq (sAsg (m2 opAdd (mV 6) (mC (.int 1))) (gN 6)) (sSeq (sExpr (mMeth fAppend (mV 3) (aCons (mV 9) (aNil)))) (sExpr (mMeth fAppend (mV 4) (aCons (mV 9) (aNil))))))) (sNil)) (sSeq (sExpr (mMeth fRemove (mV 4) (aCons (mV 9) (aNil)))) (sSeq (sExpr (mMeth fAppend (mV 4) (aCons (mV 9) (aNil)))) (sIf (tAndM (tV (mV 10)) (tB (m2 opNotIn (mV 9) (mV 5)))) (sExpr (mMeth fAppend (mV 5) (aCons (mV 9) (aNil)))) (sNil))))
noncomputable def b__law_moves : En → Sto → Rs Fl := sSeq (sAsg (mTup (aCons (mLst (aNil)) (aCons (mLst (aNil)) (aCons (mLst (aNil)) (aCons (mC (.int 0)) (aCons (mC (.int 0)) (aNil))))))) (gT 5 (gCons (gN 3) (gCons (gN 4) (gCons (gN 5) (gCons (gN 6) (gCons (gN 7) (gNil)))))))) (sSeq (sFor (iEn (aCons (mV 0) (aNil))) (gT 2 (gCons (gN 8) (gCons (gT 2 (gCons (gN 9) (gCons (gN 10) (gNil)))) (gNil)))) (w__law_moves_2)) (sRet (mTup (aCons (mV 6) (aCons (m2 opAdd (mV 7) (mN fLen (aCons (mV 5) (aNil)))) (aNil))))))
noncomputable def m__law_moves : List D → Sto → Rs D := mDef 16 (b__law_moves)
theorem ok__law_moves {P : Program} {w : World} {K : PySem.W.Frag} {mg : Str → Option Value} {base : Heap} (F : ∃ fd, FunD K "_law_moves" "_law_moves" (defArgs s__law_moves) (defBody s__law_moves) (defScope s__law_moves) [] [] (He.ga K "_law_moves") fd) (hm : mg "_law_moves" = some (.ref (He.ga K "_law_moves"))) (f_enumerate : mg "enumerate" = none) (f_len : mg "len" = none) (f_min : mg "min" = none) :
    DefAt P w K mg base 1 "_law_moves" 3 m__law_moves :=
  defAt (k := 0) (mb := b__law_moves) F hm sc__law_moves (fun _ _ _ _ _ _ us hl => match us, hl with | [_, _, _], _ => rfl) fun A outer s H E hr => by
    exact mss_cons (ms_asg (me_tup (ma_cons (me_lst (ma_nil)) (ma_cons (me_lst (ma_nil)) (ma_cons (me_lst (ma_nil)) (ma_cons (me_int) (ma_cons (me_int) (ma_nil))))))) (mg_tup rfl (mgs_cons (mg_name (i := 3) sc__law_moves.nd rfl (by first | exact Or.inl rfl | exact Or.inr rfl)) (mgs_cons (mg_name (i := 4) sc__law_moves.nd rfl (by first | exact Or.inl rfl | exact Or.inr rfl)) (mgs_cons (mg_name (i := 5) sc__law_moves.nd rfl (by first | exact Or.inl rfl | exact Or.inr rfl)) (mgs_cons (mg_name (i := 6) sc__law_moves.nd rfl (by first | exact Or.inl rfl | exact Or.inr rfl)) (mgs_cons (mg_name (i := 7) sc__law_moves.nd rfl (by first | exact Or.inl rfl | exact Or.inr rfl)) (mgs_nil)))))))) (mss_cons (ms_for PassesOwn.never rfl (mi_enum rfl f_enumerate (ma_cons (mv 0) (ma_nil))) (mg_tup rfl (mgs_cons (mg_name (i := 8) sc__law_moves.nd rfl (by first | exact Or.inl rfl | exact Or.inr rfl)) (mgs_cons (mg_tup rfl (mgs_cons (mg_name (i := 9) sc__law_moves.nd rfl (by first | exact Or.inl rfl | exact Or.inr rfl)) (mgs_cons (mg_name (i := 10) sc__law_moves.nd rfl (by first | exact Or.inl rfl | exact Or.inr rfl)) (mgs_nil)))) (mgs_nil)))) (mss_cons (ms_if (mt_cmp (or_notin (hu_of hr)) pr_notin (mv 9) (mv 3) (by rfl)) (mss_cons (ms_if (mt_cmp (or_eq hr.units) pr_eq (me_callB cr_len pr_len rfl f_len PySem.boot_len (ma_cons (mv 3) (ma_nil))) (mv 1) (by rfl)) (mss_cons (ms_set (i := 11) sc__law_moves.nd rfl (by first | exact Or.inl rfl | exact Or.inr rfl) (me_if (mt_cmp (or_eq hr.units) pr_eq (mv 2) (me_str) (by rfl)) (me_ix (or_ix (hu_of hr)) pr_ix (mv 3) (me_int) (fun _ _ => rfl)) (me_ix (or_ix (hu_of hr)) pr_ix (mv 4) (me_int) (fun _ _ => rfl)))) (mss_cons (ms_if (mt_cmp (or_eq hr.units) pr_eq (mv 2) (me_str) (by rfl)) (mss_cons (ms_set (i := 12) sc__law_moves.nd rfl (by first | exact Or.inl rfl | exact Or.inr rfl) (me_ad (tl_lc (own := [("one", 14), ("other", 15)]) rfl sc__law_moves.nd (mi_any (me_slice (mv 0) (mo_some (me_op or_add pr_add (mv 8) (me_int))) (mo_none))) (blkOk_by (by kernel_rfl)) (fun _ _ _ _ _ => mgo_tup rfl (mgos_cons (mgo_name (i := 14) (by decide) sc__law_moves.nd rfl (by first | exact Or.inl rfl | exact Or.inr rfl)) (mgos_cons (mgo_name (i := 15) (by decide) sc__law_moves.nd rfl (by first | exact Or.inl rfl | exact Or.inr rfl)) (mgos_nil)))) (fun _ _ _ _ _ => mts_nil) (fun _ _ _ _ _ => mv 14)))) (mss_cons (ms_setLc (i := 13) (own := [("one", 14)]) rfl sc__law_moves.nd rfl rfl (sw_true rfl rfl rfl (by kernel_rfl)) (mi_any (mv 3)) (blkOk_by (by kernel_rfl)) (fun _ _ _ _ _ => mgo_name (i := 14) (by decide) sc__law_moves.nd rfl (by first | exact Or.inl rfl | exact Or.inr rfl)) (fun _ _ _ _ _ => mts_nil) (fun _ _ _ _ _ => me_tup (ma_cons (me_if (mt_cmp (or_in (hu_of hr)) pr_in (mv 14) (mv 12) (by rfl)) (me_op op_sub pr_sub (me_int) (me_meth PySem.F.slot_list_index PySem.F.type_list_index mt_index pr_indexL (mv 12) (ma_cons (mv 14) (ma_nil)))) (me_un un_neg pr_neg (me_int))) (ma_cons (mv 14) (ma_nil))))) (mss_one (ms_set (i := 11) sc__law_moves.nd rfl (by first | exact Or.inl rfl | exact Or.inr rfl) (me_ix (or_ix (hu_of hr)) pr_ix (me_callB (cr_minP rfl hr.units) pr_minP rfl f_min PyProof.Rows.boot_min (ma_cons (mv 13) (ma_nil))) (me_int) (fun _ _ => rfl)))))) (mss_nil)) (mss_cons (ms_expr (me_meth PySem.F.slot_list_remove PySem.F.type_list_remove mt_remove pr_remove (mv 3) (ma_cons (mv 11) (ma_nil)))) (mss_cons (ms_expr (me_meth PySem.F.slot_list_remove PySem.F.type_list_remove mt_remove pr_remove (mv 4) (ma_cons (mv 11) (ma_nil)))) (mss_cons (ms_set (i := 7) sc__law_moves.nd rfl (by first | exact Or.inl rfl | exact Or.inr rfl) (me_op or_add pr_add (mv 7) (me_meth PySem.F.slot_list_count PySem.F.type_list_count mt_lcount pr_countL (mv 5) (ma_cons (mv 11) (ma_nil))))) (mss_one (ms_setLc (i := 5) (own := [("one", 14)]) rfl sc__law_moves.nd rfl rfl (sw_true rfl rfl rfl (by kernel_rfl)) (mi_any (mv 5)) (blkOk_by (by kernel_rfl)) (fun _ _ _ _ _ => mgo_name (i := 14) (by decide) sc__law_moves.nd rfl (by first | exact Or.inl rfl | exact Or.inr rfl)) (fun _ _ _ _ _ => mts_one (mt_cmp (or_ne hr.units) pr_ne (mv 14) (mv 11) (by rfl))) (fun _ _ _ _ _ => mv 14)))))))) (mss_nil)) (mss_cons (ms_set (i := 6) sc__law_moves.nd rfl (by first | exact Or.inl rfl | exact Or.inr rfl) (me_op or_add pr_add (mv 6) (me_int))) (mss_cons (ms_expr (me_meth PySem.F.slot_list_append PySem.F.type_list_append mt_append pr_append (mv 3) (ma_cons (mv 9) (ma_nil)))) (mss_one (ms_expr (me_meth PySem.F.slot_list_append PySem.F.type_list_append mt_append pr_append (mv 4) (ma_cons (mv 9) (ma_nil)))))))) (mss_nil)) (mss_cons (ms_expr (me_meth PySem.F.slot_list_remove PySem.F.type_list_remove mt_remove pr_remove (mv 4) (ma_cons (mv 9) (ma_nil)))) (mss_cons (ms_expr (me_meth PySem.F.slot_list_append PySem.F.type_list_append mt_append pr_append (mv 4) (ma_cons (mv 9) (ma_nil)))) (mss_one (ms_if (PW.pt (mw_and (mt_truth (mv 10)) (mw_and1 (mt_cmp (or_notin (hu_of hr)) pr_notin (mv 9) (mv 5) (by rfl))))) (mss_one (ms_expr (me_meth PySem.F.slot_list_append PySem.F.type_list_append mt_append pr_append (mv 5) (ma_cons (mv 9) (ma_nil))))) (mss_nil))))))) (mss_one (ms_ret (me_tup (ma_cons (mv 6) (ma_cons (me_op or_add pr_add (mv 7) (me_callB cr_len pr_len rfl f_len PySem.boot_len (ma_cons (mv 5) (ma_nil)))) (ma_nil)))))))
abbrev s_law : Stmt := top 26
theorem sc_law : FnScope ["script", "town", "k", "rule_here", "trace", "room"] ["script"] (defScope s_law) := ⟨rfl, rfl, rfl, by decide +kernel, rfl, by decide +kernel, by decide +kernel⟩
noncomputable def w_law_4 (P_goes P_law : Addr) : En → Sto → Rs Fl := sIf (tB (m2 opNe (mNK 2 1 (mCl 3 (m_moves_by P_goes)) (aCons (mV 4) (aCons (mV 5) (aNil))) (aCons (mV 3) (aNil))) (mN (mCl 3 m__law_moves) (aCons (mV 4) (aCons (mV 5) (aCons (mV 3) (aNil))))))) (sRet (mC (.bl false))) (sNil)
noncomputable def w_law_2 (P_goes P_law : Addr) : En → Sto → Rs Fl := sSeq (sAsg (mTup (aCons (mN (mCl 4 m__law_a_trace) (aCons (mV 0) (aCons (mV 1) (aCons (mC (.int 24)) (aCons (mC (.int 7)) (aNil)))))) (aCons (m2 opAdd (mC (.int 1)) (mN (mCl 3 m__law_draw) (aCons (mV 0) (aCons (mV 1) (aCons (mC (.int 5)) (aNil)))))) (aNil)))) (gT 2 (gCons (gN 4) (gCons (gN 5) (gNil))))) (sSeq (sFor (iA (mTup (aCons (mC (.str "first")) (aCons (mC (.str "old")) (aCons (mC (.str "far")) (aNil)))))) (gN 3) (w_law_4 P_goes P_law)) (sIf (tB (m2 opNe (mLam P_law "law.<locals>.<lambda>" 1 (okL ["BadRule"]) 7 h__law_heard (mN (mClX 3 (m_moves_by P_goes)) (aCons (mV 4) (aCons (mV 5) (aCons (mC (.str "new")) (aNil)))))) (mTup (aCons (mC (.str "bad rule")) (aNil))))) (sRet (mC (.bl false))) (sNil)))
noncomputable def l_0 (P_goes P_law : Addr) : En → Sto → Rs Fl := sAsg (mN (mCl 0 m__law_begun) aNil) (gN 1)
noncomputable def l_1 (P_goes P_law : Addr) : En → Sto → Rs Fl := sFor (fun E S => ((aCons (mC (.int 4)) (aNil)) E S).bind aiR1) (gN 2) (w_law_2 P_goes P_law)
noncomputable def l_2 (P_goes P_law : Addr) : En → Sto → Rs Fl := sRet (m2 opEq (mN (mCl 3 (m_moves_by P_goes)) (aCons (mTup (aNil)) (aCons (mC (.int 3)) (aCons (mC (.str "far")) (aNil))))) (mTup (aCons (mC (.int 0)) (aCons (mC (.int 0)) (aNil)))))
noncomputable def b_law (P_goes P_law : Addr) : En → Sto → Rs Fl := sSeq (l_0 P_goes P_law) (sSeq (l_1 P_goes P_law) (l_2 P_goes P_law))
noncomputable def m_law (P_goes P_law : Addr) : List D → Sto → Rs D := mDef 6 (b_law P_goes P_law)
theorem ok_law {P : Program} {w : World} {K : PySem.W.Frag} {mg : Str → Option Value} {base : Heap} {P_goes P_law : Addr} {fd : FuncData} (F : FunD K "law" "law" (defArgs s_law) (defBody s_law) (defScope s_law) [] [] (He.ga K "law") fd) (D__law_begun : DefAt P w K mg base 1 "_law_begun" 0 m__law_begun) (f_range : mg "range" = none) (D__law_draw : DefAt P w K mg base 1 "_law_draw" 3 m__law_draw) (D__law_a_trace : DefAt P w K mg base 2 "_law_a_trace" 4 m__law_a_trace) (DK_moves_by : DefK P w K mg base 4 "moves_by" s_moves_by ["trace", "room", "rule"] (m_moves_by P_goes)) (D__law_moves : DefAt P w K mg base 1 "_law_moves" 3 m__law_moves) (DH__law_heard : DefH P w K mg base 5 "_law_heard" 7 (okL ["BadRule"]) h__law_heard) (T_law : LamX.TabB base mg (He.codeOf K ("law", none)) P_law) (DX_moves_by : DefX P w K mg base 4 "moves_by" 3 (m_moves_by P_goes)) (D_moves_by : DefAt P w K mg base 4 "moves_by" 3 (m_moves_by P_goes)) :
    FnOk P w K mg base CX0 7 (He.ga K "law") fd ["script"] (spM ⟨K, P, w⟩ 1 (m_law P_goes P_law)) :=
  ok_defC (k := 6) (mb := b_law P_goes P_law) F sc_law fun A outer s H E hr => by
    exact mss_cons (ms_set (i := 1) sc_law.nd rfl (by first | exact Or.inl rfl | exact Or.inr rfl) (me_cl0 D__law_begun hr (by decide) rfl)) (mss_cons (ms_for PassesOwn.never rfl (mi_range1 rfl f_range (ma_cons (me_int) (ma_nil))) (mg_name (i := 2) sc_law.nd rfl (by first | exact Or.inl rfl | exact Or.inr rfl)) (mss_cons (ms_asg (me_tup (ma_cons (me_cl D__law_a_trace hr (by decide) rfl (ma_cons (mv 0) (ma_cons (mv 1) (ma_cons (me_int) (ma_cons (me_int) (ma_nil)))))) (ma_cons (me_op or_add pr_add (me_int) (me_cl D__law_draw hr (by decide) rfl (ma_cons (mv 0) (ma_cons (mv 1) (ma_cons (me_int) (ma_nil)))))) (ma_nil)))) (mg_tup rfl (mgs_cons (mg_name (i := 4) sc_law.nd rfl (by first | exact Or.inl rfl | exact Or.inr rfl)) (mgs_cons (mg_name (i := 5) sc_law.nd rfl (by first | exact Or.inl rfl | exact Or.inr rfl)) (mgs_nil))))) (mss_cons (ms_for PassesOwn.never rfl (mi_any (me_tup (ma_cons (me_str) (ma_cons (me_str) (ma_cons (me_str) (ma_nil)))))) (mg_name (i := 3) sc_law.nd rfl (by first | exact Or.inl rfl | exact Or.inr rfl)) (mss_one (ms_if (mt_cmp (or_ne hr.units) pr_ne (me_clK (a := 2) (ks := ["rule"]) DK_moves_by hr (by decide) rfl (by decide) (fun _ _ _ _ _ _ us ws h1 h2 => match us, ws, h1, h2 with | [_, _], [_], _, _ => rfl) (ma_cons (mv 4) (ma_cons (mv 5) (ma_nil))) (mk_cons (mv 3) (mk_nil))) (me_cl D__law_moves hr (by decide) rfl (ma_cons (mv 4) (ma_cons (mv 5) (ma_cons (mv 3) (ma_nil))))) (by rfl)) (mss_one (ms_ret (me_bl))) (mss_nil)))) (mss_one (ms_if (mt_cmp (or_ne hr.units) pr_ne (me_heard (k := 4) (ti := 1) DH__law_heard rfl T_law rfl (Room.mono hr (by decide)) (LamX.lamS_by (by kernel_rfl)) rfl (fun _ _ _ _ _ => rfl) (fun A outer s H E f c2 hr2 => me_clX DX_moves_by hr2 (by decide) rfl takes_lam (ma_cons (mv 4) (ma_cons (mv 5) (ma_cons (me_str) (ma_nil)))))) (me_tup (ma_cons (me_str) (ma_nil))) (by rfl)) (mss_one (ms_ret (me_bl))) (mss_nil)))))) (mss_one (ms_ret (me_cmp (or_eq hr.units) pr_eq (me_cl D_moves_by hr (by decide) rfl (ma_cons (me_tup (ma_nil)) (ma_cons (me_int) (ma_cons (me_str) (ma_nil))))) (me_tup (ma_cons (me_int) (ma_cons (me_int) (ma_nil)))) (by rfl)))))
end K33
end M

namespace M
namespace K33
open PySem L2
def dd (x : Str) (i : Nat) : He.DefD := ⟨(x, none), x, x, defArgs (top i), defBody (top i), defScope (top i), [], []⟩
def fn : List He.DefD := [dd "next_use" 17, dd "goes" 18, dd "moves_by" 19, dd "_law_heard" 21, dd "_law_draw" 22, dd "_law_begun" 23, dd "_law_a_trace" 24, dd "_law_moves" 25, dd "law" 26]
def fa : List He.Fa := [.glo "next_use", .glo "goes", .glo "moves_by", .glo "_law_heard", .glo "_law_draw", .glo "_law_begun", .glo "_law_a_trace", .glo "_law_moves", .glo "law", .glo "RULES", .free "ValueError", .free "enumerate", .free "int", .free "isinstance", .free "len", .free "max", .free "min", .free "range", .free "sum", .free "tuple", .glo "BadLayout", .glo "BadNest", .glo "BadOrder", .glo "BadPlan", .glo "BadRule", .glo "BadSize", .glo "Broken", .glo "LoopError", .glo "NoBack", .glo "NoCell", .glo "NoInstance", .glo "NoText", .glo "NoTiling", .glo "TooMuch", .exc "BadRule"]
def tf : List He.Defn := [("goes", none), ("law", none)]
def ex (K : PySem.W.Frag) : Bool := (He.tupB K "RULES" [.str "first", .str "old", .str "far"]) && (isxL K [("BadRule", false)] (.ref (He.ga K "BadLayout"))) && (isxL K [("BadRule", false)] (.ref (He.ga K "BadNest"))) && (isxL K [("BadRule", false)] (.ref (He.ga K "BadOrder"))) && (isxL K [("BadRule", false)] (.ref (He.ga K "BadPlan"))) && (isxL K [("BadRule", true)] (.ref (He.ga K "BadRule"))) && (isxL K [("BadRule", false)] (.ref (He.ga K "BadSize"))) && (isxL K [("BadRule", false)] (.ref (He.ga K "Broken"))) && (isxL K [("BadRule", false)] (.ref (He.ga K "NoBack"))) && (isxL K [("BadRule", false)] (.ref (He.ga K "NoCell"))) && (isxL K [("BadRule", false)] (.ref (He.ga K "NoInstance"))) && (isxL K [("BadRule", false)] (.ref (He.ga K "NoText"))) && (isxL K [("BadRule", false)] (.ref (He.ga K "NoTiling"))) && (isxL K [("BadRule", false)] (.ref (He.ga K "TooMuch"))) && (isxL K [("BadRule", true)] (.type "ValueError")) && (okB K ["BadRule"] "LoopError") && (decide ((tf.map fun p => (He.cT K p).2).Nodup))
abbrev R : PySem.W.OpenRow := PySem.W.OpenLaw.row PySem.Challenge.rw_bankloops_k33_rules
abbrev hk : PySem.W.Hook := He.hookX 5 fa fn [] tf ex
def ob (s : PySem.W.SharedT) : He.AlX := He.obsX 5 fa fn [] tf ex (HandSHeadRun.getT s)
theorem ob_eq (s : PySem.W.SharedT) : ob s = hk.obs s.abs := He.obsX_eq (HandSHeadRun.getT_eq s)
theorem run (w : World) : HandSHeadRun.RunEq R (PySem.W.view R.prog [26]) hk ob 6000 ["LoopError", "NoInstance", "NoCell", "BadOrder", "BadPlan", "BadRule", "TooMuch", "BadNest", "Broken", "BadLayout", "BadSize", "NoTiling", "NoBack", "NoText", "RULES", "next_use", "goes", "moves_by", "_law_heard", "_law_draw", "_law_begun", "_law_a_trace", "_law_moves"] w := by
  intro os
  kernel_rfl
/-- the plain law -/
def Plain : Prop := ∀ (P_goes P_law : Addr), ∀ ns : List Int, ns.length ≤ 63 → (∀ z ∈ ns, Builtin.Int.intBits z ≤ 1048576) → ∃ S1, m_law P_goes P_law [.rl ns] [.tb P_goes "goes.<locals>.<lambda>", .tb P_law "law.<locals>.<lambda>"] = .ok (.bl true) S1
theorem atM {w : World} {K : PySem.W.Frag} {h : Heap} {mg : Str → Option Value} {f0 : Addr} (hp : Plain) (X : K.In h) (G : h.Ns mainGlobals mg) (hfa : mg "law" = some (.ref f0)) (c : He.SaysX fa fn [] tf ex w h K) : LamX.LawAtS PySem.Challenge.rw_bankloops_k33_rules w K CX0 7 63 "script" mg f0 h := by
  have cd := c.t.d
  have F_next_use := cd.def_ 0 (d := dd "next_use" 17) rfl
  have g_next_use := He.glo_ok X G (cd.fact 0 (f := .glo "next_use") rfl)
  have F_goes := cd.def_ 1 (d := dd "goes" 18) rfl
  have g_goes := He.glo_ok X G (cd.fact 1 (f := .glo "goes") rfl)
  have F_moves_by := cd.def_ 2 (d := dd "moves_by" 19) rfl
  have g_moves_by := He.glo_ok X G (cd.fact 2 (f := .glo "moves_by") rfl)
  have F__law_heard := cd.def_ 3 (d := dd "_law_heard" 21) rfl
  have g__law_heard := He.glo_ok X G (cd.fact 3 (f := .glo "_law_heard") rfl)
  have F__law_draw := cd.def_ 4 (d := dd "_law_draw" 22) rfl
  have g__law_draw := He.glo_ok X G (cd.fact 4 (f := .glo "_law_draw") rfl)
  have F__law_begun := cd.def_ 5 (d := dd "_law_begun" 23) rfl
  have g__law_begun := He.glo_ok X G (cd.fact 5 (f := .glo "_law_begun") rfl)
  have F__law_a_trace := cd.def_ 6 (d := dd "_law_a_trace" 24) rfl
  have g__law_a_trace := He.glo_ok X G (cd.fact 6 (f := .glo "_law_a_trace") rfl)
  have F__law_moves := cd.def_ 7 (d := dd "_law_moves" 25) rfl
  have g__law_moves := He.glo_ok X G (cd.fact 7 (f := .glo "_law_moves") rfl)
  have F_law := cd.def_ 8 (d := dd "law" 26) rfl
  have g_law := He.glo_ok X G (cd.fact 8 (f := .glo "law") rfl)
  have f_ValueError := He.free_ok X G (cd.fact 10 (f := .free "ValueError") rfl)
  have f_enumerate := He.free_ok X G (cd.fact 11 (f := .free "enumerate") rfl)
  have f_int := He.free_ok X G (cd.fact 12 (f := .free "int") rfl)
  have f_isinstance := He.free_ok X G (cd.fact 13 (f := .free "isinstance") rfl)
  have f_len := He.free_ok X G (cd.fact 14 (f := .free "len") rfl)
  have f_max := He.free_ok X G (cd.fact 15 (f := .free "max") rfl)
  have f_min := He.free_ok X G (cd.fact 16 (f := .free "min") rfl)
  have f_range := He.free_ok X G (cd.fact 17 (f := .free "range") rfl)
  have f_sum := He.free_ok X G (cd.fact 18 (f := .free "sum") rfl)
  have f_tuple := He.free_ok X G (cd.fact 19 (f := .free "tuple") rfl)
  have g_BadLayout := He.glo_ok X G (cd.fact 20 (f := .glo "BadLayout") rfl)
  have g_BadNest := He.glo_ok X G (cd.fact 21 (f := .glo "BadNest") rfl)
  have g_BadOrder := He.glo_ok X G (cd.fact 22 (f := .glo "BadOrder") rfl)
  have g_BadPlan := He.glo_ok X G (cd.fact 23 (f := .glo "BadPlan") rfl)
  have g_BadRule := He.glo_ok X G (cd.fact 24 (f := .glo "BadRule") rfl)
  have g_BadSize := He.glo_ok X G (cd.fact 25 (f := .glo "BadSize") rfl)
  have g_Broken := He.glo_ok X G (cd.fact 26 (f := .glo "Broken") rfl)
  have g_LoopError := He.glo_ok X G (cd.fact 27 (f := .glo "LoopError") rfl)
  have g_NoBack := He.glo_ok X G (cd.fact 28 (f := .glo "NoBack") rfl)
  have g_NoCell := He.glo_ok X G (cd.fact 29 (f := .glo "NoCell") rfl)
  have g_NoInstance := He.glo_ok X G (cd.fact 30 (f := .glo "NoInstance") rfl)
  have g_NoText := He.glo_ok X G (cd.fact 31 (f := .glo "NoText") rfl)
  have g_NoTiling := He.glo_ok X G (cd.fact 32 (f := .glo "NoTiling") rfl)
  have g_TooMuch := He.glo_ok X G (cd.fact 33 (f := .glo "TooMuch") rfl)
  have e_BadRule := He.exc_ok (cd.fact 34 (f := .exc "BadRule") rfl)
  have x_BadLayout := (He.ba (He.ba (He.ba (He.ba (He.ba (He.ba (He.ba (He.ba (He.ba (He.ba (He.ba (He.ba (He.ba (He.ba (He.ba (He.ba c.more).1).1).1).1).1).1).1).1).1).1).1).1).1).1).1).2
  have x_BadNest := (He.ba (He.ba (He.ba (He.ba (He.ba (He.ba (He.ba (He.ba (He.ba (He.ba (He.ba (He.ba (He.ba (He.ba (He.ba c.more).1).1).1).1).1).1).1).1).1).1).1).1).1).1).2
  have x_BadOrder := (He.ba (He.ba (He.ba (He.ba (He.ba (He.ba (He.ba (He.ba (He.ba (He.ba (He.ba (He.ba (He.ba (He.ba c.more).1).1).1).1).1).1).1).1).1).1).1).1).1).2
  have x_BadPlan := (He.ba (He.ba (He.ba (He.ba (He.ba (He.ba (He.ba (He.ba (He.ba (He.ba (He.ba (He.ba (He.ba c.more).1).1).1).1).1).1).1).1).1).1).1).1).2
  have x_BadRule := (He.ba (He.ba (He.ba (He.ba (He.ba (He.ba (He.ba (He.ba (He.ba (He.ba (He.ba (He.ba c.more).1).1).1).1).1).1).1).1).1).1).1).2
  have x_BadSize := (He.ba (He.ba (He.ba (He.ba (He.ba (He.ba (He.ba (He.ba (He.ba (He.ba (He.ba c.more).1).1).1).1).1).1).1).1).1).1).2
  have x_Broken := (He.ba (He.ba (He.ba (He.ba (He.ba (He.ba (He.ba (He.ba (He.ba (He.ba c.more).1).1).1).1).1).1).1).1).1).2
  have x_NoBack := (He.ba (He.ba (He.ba (He.ba (He.ba (He.ba (He.ba (He.ba (He.ba c.more).1).1).1).1).1).1).1).1).2
  have x_NoCell := (He.ba (He.ba (He.ba (He.ba (He.ba (He.ba (He.ba (He.ba c.more).1).1).1).1).1).1).1).2
  have x_NoInstance := (He.ba (He.ba (He.ba (He.ba (He.ba (He.ba (He.ba c.more).1).1).1).1).1).1).2
  have x_NoText := (He.ba (He.ba (He.ba (He.ba (He.ba (He.ba c.more).1).1).1).1).1).2
  have x_NoTiling := (He.ba (He.ba (He.ba (He.ba (He.ba c.more).1).1).1).1).2
  have x_TooMuch := (He.ba (He.ba (He.ba (He.ba c.more).1).1).1).2
  have x_ValueError := (He.ba (He.ba (He.ba c.more).1).1).2
  have x_ok := (He.ba (He.ba c.more).1).2
  have hg_RULES : ∃ a, mg "RULES" = some (.ref a) ∧ ∀ p H, RD ⟨K, (PySem.Challenge.rw_bankloops_k33_rules).prog, w⟩ p H c_RULES (.ref a) := ⟨_, He.glo_ok X G (cd.fact 9 (f := .glo "RULES") rfl), fun p H => ⟨_, _, rfl, He.tupB_ok ((He.ba (He.ba (He.ba (He.ba (He.ba (He.ba (He.ba (He.ba (He.ba (He.ba (He.ba (He.ba (He.ba (He.ba (He.ba (He.ba c.more).1).1).1).1).1).1).1).1).1).1).1).1).1).1).1).1) H, _, _, rfl, rfl, _, _, rfl, rfl, _, _, rfl, rfl, rfl⟩⟩
  have e := hfa.symm.trans g_law
  cases e
  obtain ⟨fd, FL⟩ := F_law
  have b := FunD.bindsA (ps := ["script"]) FL fun _ _ _ _ _ _ us hl => match us, hl with | [_], _ => rfl
  refine lawAtM (mf := (m_law (He.cT K ("goes", none)).2 (He.cT K ("law", none)).2)) (tf.map (He.cT K)) ["goes.<locals>.<lambda>", "law.<locals>.<lambda>"] rfl (by have := of_decide_eq_true ((He.ba c.more).2); simpa [List.map_map, Function.comp_def] using this) (fun p hp => ?_) (fun p hp => ?_) (fun p hp => ?_) (fun s v => b s [v] rfl) (fun base b1 b2 b3 => ?_) (fun ns h1 h2 => hp _ _ ns h1 h2)
  · obtain ⟨q, hq, rfl⟩ := List.mem_map.mp hp
    exact c.empty q hq
  · obtain ⟨q, hq, rfl⟩ := List.mem_map.mp hp
    exact c.out q hq
  · obtain ⟨q, hq, rfl⟩ := List.mem_map.mp hp
    exact PySem.W.codeHd_of_K X (c.hd q hq)
  · have T_goes := b3 (He.cT K ("goes", none)) (List.mem_map.mpr ⟨("goes", none), by simp [tf], rfl⟩)
    have T_law := b3 (He.cT K ("law", none)) (List.mem_map.mpr ⟨("law", none), by simp [tf], rfl⟩)
    have D_next_use : DefAt (PySem.Challenge.rw_bankloops_k33_rules).prog w K mg base 1 "next_use" 3 m_next_use := ok_next_use F_next_use g_next_use f_range f_len
    have D_goes : DefAt (PySem.Challenge.rw_bankloops_k33_rules).prog w K mg base 3 "goes" 4 (m_goes (He.cT K ("goes", none)).2) := ok_goes F_goes g_goes D_next_use f_min f_max T_goes
    have DXK_moves_by : DefXK (PySem.Challenge.rw_bankloops_k33_rules).prog w K mg base 4 "moves_by" s_moves_by ["trace", "room", "rule"] (m_moves_by (He.cT K ("goes", none)).2) := ok_moves_by F_moves_by g_moves_by hg_RULES g_BadRule e_BadRule f_enumerate f_len f_int D_goes f_sum
    have DX_moves_by : DefX (PySem.Challenge.rw_bankloops_k33_rules).prog w K mg base 4 "moves_by" 3 (m_moves_by (He.cT K ("goes", none)).2) := DXK_moves_by.x
    have DK_moves_by : DefK (PySem.Challenge.rw_bankloops_k33_rules).prog w K mg base 4 "moves_by" s_moves_by ["trace", "room", "rule"] (m_moves_by (He.cT K ("goes", none)).2) := DXK_moves_by.k
    have D_moves_by : DefAt (PySem.Challenge.rw_bankloops_k33_rules).prog w K mg base 4 "moves_by" 3 (m_moves_by (He.cT K ("goes", none)).2) := DK_moves_by.at
    have DH__law_heard : DefH (PySem.Challenge.rw_bankloops_k33_rules).prog w K mg base 5 "_law_heard" 7 (okL ["BadRule"]) h__law_heard := ok__law_heard F__law_heard g__law_heard g_LoopError x_ok f_isinstance g_NoInstance x_NoInstance g_NoCell x_NoCell g_BadOrder x_BadOrder g_BadPlan x_BadPlan g_BadRule x_BadRule g_BadNest x_BadNest g_BadLayout x_BadLayout g_BadSize x_BadSize g_NoTiling x_NoTiling g_NoBack x_NoBack g_NoText x_NoText g_TooMuch x_TooMuch g_Broken x_Broken f_len f_ValueError x_ValueError
    have D__law_draw : DefAt (PySem.Challenge.rw_bankloops_k33_rules).prog w K mg base 1 "_law_draw" 3 m__law_draw := ok__law_draw F__law_draw g__law_draw f_len
    have D__law_begun : DefAt (PySem.Challenge.rw_bankloops_k33_rules).prog w K mg base 1 "_law_begun" 0 m__law_begun := ok__law_begun F__law_begun g__law_begun 
    have D__law_a_trace : DefAt (PySem.Challenge.rw_bankloops_k33_rules).prog w K mg base 2 "_law_a_trace" 4 m__law_a_trace := ok__law_a_trace F__law_a_trace g__law_a_trace D__law_draw f_tuple f_range
    have D__law_moves : DefAt (PySem.Challenge.rw_bankloops_k33_rules).prog w K mg base 1 "_law_moves" 3 m__law_moves := ok__law_moves F__law_moves g__law_moves f_enumerate f_len f_min
    exact ok_law FL D__law_begun f_range D__law_draw D__law_a_trace DK_moves_by D__law_moves DH__law_heard T_law DX_moves_by D_moves_by
end K33
end M

namespace M
namespace K33
open PySem L2
/-! ### traces, rows -/
abbrev Tr := List (Int × Bool)
def eD (x : Int × Bool) : D := .tup [.int x.1, .bl x.2]
def tD (tr : Tr) : D := .tup (tr.map eD)
def nextUse (tr : Tr) (at' : Nat) (line : Int) : Nat := at' + 1 + (tr.drop (at' + 1)).findIdx fun x => x.1 == line
def upto : Nat → Tr → List D
  | _, [] => []
  | b, _ :: r => .int (b : Nat) :: upto (b + 1) r
theorem range_upto : ∀ (l : Tr) (b : Nat), rangeD (b : Nat) ((b + l.length : Nat) : Int) = upto b l
  | [], b => by simp [rangeD, upto]
  | x :: l, b => by
    have ih := range_upto l (b + 1)
    unfold rangeD at ih ⊢
    have e1 : (((b + (x :: l).length : Nat) : Int) - (b : Nat)).toNat = l.length + 1 := by simp; omega
    have e2 : (((b + 1 + l.length : Nat) : Int) - ((b + 1 : Nat) : Int)).toNat = l.length := by omega
    rw [e2] at ih
    rw [e1, List.range_succ_eq_map, List.map_cons, List.map_map, upto, ← ih]
    congr 1
    simp
    intros
    omega
theorem at0 {x : Int × Bool} {S : Sto} : opIx (eD x) (.int 0) S = .ok (.int x.1) S := rfl
theorem next_loop {tr : Tr} {line a0 : Int} {S : Sto} : ∀ (l : Tr) (b : Nat) (x : Option D), tr.drop b = l → ∃ r, loop (fun _ => True) (fun d E S => (gN 3 d E S).bind (sIf (tB (m2 opEq (m2 opIx (m2 opIx (mV 0) (mV 3)) (mC (.int 0))) (mV 2))) (sRet (mV 3)) (sNil))) (upto b l) [some (tD tr), some (.int a0), some (.int line), x] S = .ok r S ∧
    if l.findIdx (fun x => x.1 == line) < l.length then r = .rt (.int ((b + l.findIdx (fun x => x.1 == line) : Nat) : Int)) else ∃ y, r = .nx [some (tD tr), some (.int a0), some (.int line), y]
  | [], b, x, _ => by
    refine ⟨.nx [some (tD tr), some (.int a0), some (.int line), x], by rw [upto, loop, if_pos trivial], ?_⟩
    rw [if_neg (by simp)]; exact ⟨x, rfl⟩
  | y :: l, b, x, h => by
    have hb : b < tr.length := by
      have := congrArg List.length h
      simp at this; omega
    have hy : tr[b]? = some y := by
      have := congrArg (fun z => z[0]?) h
      simpa using this
    have h' : tr.drop (b + 1) = l := by
      have := congrArg List.tail h
      simpa using this
    have hix : atI (tr.map eD) (b : Int) = some (eD y) := by
      rw [atI_nat (by simpa using hb), List.getElem?_map, hy]; rfl
    rw [upto, loop, if_pos trivial]
    by_cases hc : y.1 = line
    · refine ⟨.rt (.int b), ?_, ?_⟩
      · simp [gN, sIf, tB, m2, mV, tD, hix, at0, hc, sRet]
      · simp [List.findIdx_cons, hc]
    · obtain ⟨r, h1, h2⟩ := next_loop (tr := tr) (line := line) (a0 := a0) (S := S) l (b + 1) (some (.int b)) h'
      refine ⟨r, ?_, ?_⟩
      · rw [← h1]
        simp [gN, sIf, tB, m2, mV, tD, hix, at0, hc, sNil]
      · have e : (y.1 == line) = false := by simpa using hc
        rw [List.findIdx_cons, e]
        simp only [cond_false, List.length_cons, Nat.add_lt_add_iff_right]
        have e2 : b + (List.findIdx (fun x => x.fst == line) l + 1) = b + 1 + List.findIdx (fun x => x.fst == line) l := by omega
        rw [e2]
        exact h2
theorem next_use_ok {tr : Tr} {a0 : Nat} {line : Int} {S : Sto} (ha : a0 < tr.length) (hl : tr.length ≤ 1000000) : m_next_use [tD tr, .int (a0 : Nat), .int line] S = .ok (.int (nextUse tr a0 line : Nat)) S := by
  obtain ⟨r, h1, h2⟩ := next_loop (tr := tr) (line := line) (a0 := a0) (S := S) (tr.drop (a0 + 1)) (a0 + 1) none rfl
  have e : rangeD ((a0 : Int) + 1) (tr.length : Nat) = upto (a0 + 1) (tr.drop (a0 + 1)) := by
    rw [← range_upto]
    congr 1
    rw [List.length_drop]
    omega
  have hmi : ((aCons (m2 opAdd (mV 1) (mC (.int 1))) (aCons (mN fLen (aCons (mV 0) (aNil))) (aNil))) [some (tD tr), some (.int (a0 : Nat)), some (.int line), none] S).bind aiR2 = .ok ⟨upto (a0 + 1) (tr.drop (a0 + 1)), fun _ => True, none⟩ S := by
    have e' : rangeD ((a0 : Int) + 1) ((List.map eD tr).length : Nat) = upto (a0 + 1) (tr.drop (a0 + 1)) := by rw [List.length_map]; exact e
    have e2 : (aCons (m2 opAdd (mV 1) (mC (.int 1))) (aCons (mN fLen (aCons (mV 0) (aNil))) (aNil))) [some (tD tr), some (.int (a0 : Nat)), some (.int line), none] S = .ok [.int ((a0 : Int) + 1), .int ((List.map eD tr).length : Nat)] S := rfl
    rw [e2, bind_ok, aiR2, if_pos (by rw [List.length_map]; omega), e']
  have hF : sFor (fun E S => ((aCons (m2 opAdd (mV 1) (mC (.int 1))) (aCons (mN fLen (aCons (mV 0) (aNil))) (aNil))) E S).bind aiR2) (gN 3) (sIf (tB (m2 opEq (m2 opIx (m2 opIx (mV 0) (mV 3)) (mC (.int 0))) (mV 2))) (sRet (mV 3)) (sNil)) [some (tD tr), some (.int (a0 : Nat)), some (.int line), none] S = .ok r S := by
    unfold sFor
    show (((aCons (m2 opAdd (mV 1) (mC (.int 1))) (aCons (mN fLen (aCons (mV 0) (aNil))) (aNil))) [some (tD tr), some (.int (a0 : Nat)), some (.int line), none] S).bind aiR2).bind _ = _
    rw [hmi, bind_ok]
    show (loop _ _ _ _ S).bind _ = _
    rw [h1]
    rfl
  unfold m_next_use b_next_use
  by_cases hc : (tr.drop (a0 + 1)).findIdx (fun x => x.1 == line) < (tr.drop (a0 + 1)).length
  · rw [if_pos hc] at h2
    rw [h2] at hF
    exact def_rt (seq_rt hF) (gc_same rfl)
  · rw [if_neg hc] at h2
    obtain ⟨y, rfl⟩ := h2
    refine def_rt (seq_ok hF (ret_ok (d := .int (tr.length : Nat)) (S1 := S) ?_)) ?_
    · simp [mN, aCons, mV, aNil, tD]
    · rw [gc_same rfl]
      have h3 := List.findIdx_le_length (xs := tr.drop (a0 + 1)) (p := fun x => x.1 == line)
      unfold nextUse
      rw [List.length_drop] at hc h3
      have e3 : tr.length = a0 + 1 + (tr.drop (a0 + 1)).findIdx (fun x => x.1 == line) := by omega
      rw [← e3]
end K33
end M

namespace M
namespace K33
open PySem L2
/-! ### the store's rows -/
abbrev Rw := Int × Nat × Nat × Bool
def rowV (r : Rw) : D := .tup [.int (r.2.1 : Nat), .int (r.2.2.1 : Nat), .bl r.2.2.2]
def rowD (r : Rw) : Key × D := (.inl r.1, rowV r)
def dictD (rows : List Rw) : List (Key × D) := rows.map rowD
def lookR (rows : List Rw) (x : Int) : Option Rw := rows.find? fun r => r.1 == x
theorem inl_eq {a b : Int} : (decide ((Sum.inl a : Key) = .inl b)) = (a == b) := by
  by_cases h : a = b <;> simp [h]
theorem getK_dict {rows : List Rw} {x : Int} : getK (dictD rows) (.inl x) = (lookR rows x).map rowV := by
  unfold getK lookR dictD
  induction rows with
  | nil => rfl
  | cons r rs ih =>
    rw [List.map_cons, List.find?_cons, List.find?_cons]
    have e : decide ((rowD r).1 = (.inl x : Key)) = (r.1 == x) := inl_eq
    rw [e]
    cases r.1 == x with
    | true => rfl
    | false => exact ih
theorem look_mem {rows : List Rw} (hn : (rows.map (·.1)).Nodup) {r : Rw} (h : r ∈ rows) : lookR rows r.1 = some r := by
  induction rows with
  | nil => cases h
  | cons q rs ih =>
    unfold lookR
    rw [List.find?_cons]
    rw [List.map_cons, List.nodup_cons] at hn
    rcases List.mem_cons.mp h with rfl | h
    · simp
    · have e : (q.1 == r.1) = false := by
        rw [beq_eq_false_iff_ne]
        intro z
        exact hn.1 (z ▸ List.mem_map.mpr ⟨r, h, rfl⟩)
      rw [e]
      exact ih hn.2 h
def setR (rows : List Rw) (r : Rw) : List Rw := if (rows.any fun q => q.1 == r.1) = true then rows.map (fun q => if q.1 == r.1 then r else q) else rows ++ [r]
theorem setK_dict {rows : List Rw} {r : Rw} : setK (dictD rows) (.inl r.1) (rowV r) = dictD (setR rows r) := by
  unfold setK setR dictD
  have e : ((rows.map rowD).any fun kv => decide (kv.1 = (.inl r.1 : Key))) = rows.any fun q => q.1 == r.1 := by
    rw [List.any_map]
    congr 1
    funext q
    exact inl_eq
  rw [e]
  split
  · rw [List.map_map, List.map_map]
    refine List.map_congr_left fun q _ => ?_
    simp only [Function.comp]
    by_cases h : q.1 = r.1
    · have h1 : (rowD q).1 = (.inl r.1 : Key) := by rw [← h]; rfl
      rw [if_pos h1, if_pos (by simpa using h)]
      show ((.inl q.1 : Key), rowV r) = (.inl r.1, rowV r)
      rw [h]
    · have h1 : ¬ (rowD q).1 = (.inl r.1 : Key) := fun z => h (Sum.inl.inj z)
      rw [if_neg h1, if_neg (by simpa using h)]
  · rw [List.map_append]; rfl
theorem delK_dict {rows : List Rw} {x : Int} : delK (dictD rows) (.inl x) = dictD (rows.filter fun r => r.1 != x) := by
  unfold delK dictD
  rw [List.filter_map]
  congr 1
  refine List.filter_congr fun q _ => ?_
  show decide ((.inl q.1 : Key) ≠ .inl x) = (q.1 != x)
  by_cases h : q.1 = x <;> simp [h]
theorem lowDs_rows {n : Nat} {rows : List Rw} : lowDs n ((dictD rows).map (·.2)) = true := by
  refine lowDs_all fun d hd => ?_
  obtain ⟨kv, hk, rfl⟩ := List.mem_map.mp hd
  obtain ⟨r, _, rfl⟩ := List.mem_map.mp hk
  rfl
/-! ### which row goes -/
def foldMax : List Int → Int
  | [] => 0
  | n :: ns => ns.foldl max n
def foldMin : List Int → Int
  | [] => 0
  | n :: ns => ns.foldl min n
def goFar (tr : Tr) (at' : Nat) (rows : List Rw) : Int :=
  foldMin ((rows.filter fun r => decide ((nextUse tr at' r.1 : Int) = foldMax (rows.map fun r => (nextUse tr at' r.1 : Int)))).map (·.1))
def goMin (f : Rw → Nat) : List Rw → Rw → Rw
  | [], b => b
  | r :: rs, b => if f r < f b then goMin f rs r else goMin f rs b
def goKey (f : Rw → Nat) : List Rw → Int
  | [] => 0
  | r :: rs => (goMin f rs r).1
theorem foldMax_mem : ∀ {ns : List Int}, ns ≠ [] → foldMax ns ∈ ns
  | [], h => absurd rfl h
  | n :: ns, _ => by
    have key : ∀ (ns : List Int) (n : Int), ns.foldl max n ∈ n :: ns := by
      intro ns
      induction ns with
      | nil => intro n; simp
      | cons m ns ih =>
        intro n
        rw [List.foldl_cons]
        rcases List.mem_cons.mp (ih (max n m)) with h | h
        · rw [h]
          rcases Int.le_total n m with q | q
          · rw [Int.max_eq_right q]; simp
          · rw [Int.max_eq_left q]; simp
        · simp [h]
    exact key ns n
theorem fMax_ints {ns : List Int} {S : Sto} (h : ns ≠ []) : fMax (ns.map .int) S = .ok (.int (foldMax ns)) S := by
  unfold fMax
  rw [toInts_map]
  cases ns with
  | nil => exact absurd rfl h
  | cons n ns => rfl
theorem fMin_ints {ns : List Int} {S : Sto} (h : ns ≠ []) : fMin (ns.map .int) S = .ok (.int (foldMin ns)) S := by
  unfold fMin
  rw [toInts_map]
  cases ns with
  | nil => exact absurd rfl h
  | cons n ns => rfl
theorem filterMap_rows {rows : List Rw} {f : D → Option D} {p : Rw → Bool} (h : ∀ r ∈ rows, f (.int r.1) = if p r then some (.int r.1) else none) : (rows.map fun r => D.int r.1).filterMap f = ((rows.filter p).map (·.1)).map .int := by
  induction rows with
  | nil => rfl
  | cons r rs ih =>
    rw [List.map_cons, List.filterMap_cons, h r (List.mem_cons_self ..), List.filter_cons]
    have ih' := ih fun q hq => h q (List.mem_cons_of_mem _ hq)
    cases hp : p r with
    | true => simp [ih']
    | false => simpa using ih'
theorem keys_dict {rows : List Rw} : ((dictD rows).map fun kv => kD kv.1) = rows.map fun r => D.int r.1 := by
  unfold dictD; rw [List.map_map]; rfl
theorem nodup_inl : ∀ {xs : List Int}, xs.Nodup → (xs.map fun x => (.inl x : Key)).Nodup
  | [], _ => List.nodup_nil
  | x :: xs, h => by
    rw [List.nodup_cons] at h
    rw [List.map_cons, List.nodup_cons]
    refine ⟨fun z => ?_, nodup_inl h.2⟩
    obtain ⟨y, hy, e⟩ := List.mem_map.mp z
    cases e
    exact h.1 hy
theorem goes_far {P : Addr} {tr : Tr} {a0 s : Nat} {rows : List Rw} {S : Sto} (hS : S[s]? = some (.dk (dictD rows))) (hlow : Low S) (hn : (rows.map (·.1)).Nodup) (hne : rows ≠ []) (ha : a0 < tr.length) (hl : tr.length ≤ 1000000) (hr : rows.length ≤ 1000000) :
    m_goes P [tD tr, .int (a0 : Nat), .ref s, .str "far"] S = .ok (.int (goFar tr a0 rows)) S := by
  have hs := (List.getElem?_eq_some_iff.mp hS).1
  have hz : (1000000 : Nat) ≤ sizeLine := by decide
  let farD : List (Key × D) := rows.map fun r => (.inl r.1, .int (nextUse tr a0 r.1 : Nat))
  have h1 : mCompD (iA (mV 2)) [6] (gN 6) (tYesM) (mV 6) (mN (mCl 3 m_next_use) (aCons (mV 0) (aCons (mV 1) (aCons (mV 6) (aNil))))) [some (tD tr), some (.int (a0 : Nat)), some (.ref s), some (.str "far"), none, none, none] S = .ok farD S := by
    have hmi : iA (mV 2) [some (tD tr), some (.int (a0 : Nat)), some (.ref s), some (.str "far"), none, none, none] S = .ok ⟨(dictD rows).map fun kv => kD kv.1, fun S => S[s]? = some (.fd (dictD rows)), some s⟩ S := by
      simp [iA, mV, aiOf, hS]
    rw [mCompD_lock (fun d => match d with | .int x => (.inl x, .int (nextUse tr a0 x : Nat)) | _ => (.inl 0, .non)) hmi hS ?_ (by simp [dictD]; omega)]
    · rw [keys_dict, foldl_setK]
      · simp [farD]
      · have e : ((rows.map fun r => D.int r.1).map fun d => (match d with | .int x => ((.inl x : Key), D.int (nextUse tr a0 x : Nat)) | _ => (.inl 0, .non)).1) = (rows.map (·.1)).map .inl := by rw [List.map_map, List.map_map]; rfl
        show (([] : List Key) ++ _).Nodup
        rw [List.nil_append, e]
        exact nodup_inl hn
    · intro d hd
      rw [keys_dict] at hd
      obtain ⟨r, _, rfl⟩ := List.mem_map.mp hd
      have e : mN (mCl 3 m_next_use) (aCons (mV 0) (aCons (mV 1) (aCons (mV 6) (aNil)))) [some (tD tr), some (.int (a0 : Nat)), some (.ref s), some (.str "far"), none, none, some (.int r.1)] (S.set s (.fd (dictD rows))) = .ok (.int (nextUse tr a0 r.1 : Nat)) (S.set s (.fd (dictD rows))) := call_ok rfl rfl (next_use_ok ha hl)
      have e6 : gN 6 (.int r.1) (wipeE [6] [some (tD tr), some (.int (a0 : Nat)), some (.ref s), some (.str "far"), none, none, none]) (S.set s (.fd (dictD rows))) = .ok [some (tD tr), some (.int (a0 : Nat)), some (.ref s), some (.str "far"), none, none, some (.int r.1)] (S.set s (.fd (dictD rows))) := rfl
      have e7 : mV 6 [some (tD tr), some (.int (a0 : Nat)), some (.ref s), some (.str "far"), none, none, some (.int r.1)] (S.set s (.fd (dictD rows))) = .ok (.int r.1) (S.set s (.fd (dictD rows))) := rfl
      have e8 : tYesM [some (tD tr), some (.int (a0 : Nat)), some (.ref s), some (.str "far"), none, none, some (.int r.1)] (S.set s (.fd (dictD rows))) = .ok true (S.set s (.fd (dictD rows))) := rfl
      unfold bodyD
      rw [e6, bind_ok, e8, bind_ok, if_pos rfl, e7, bind_ok, e, bind_ok]
      rfl
  have hx : rows.map (fun r => (nextUse tr a0 r.1 : Int)) ≠ [] := by simpa using hne
  have h2 : mComp (iA (mV 2)) [6] (gN 6) (tB (m2 opEq (m2 opIx (mV 5) (mV 6)) (m1 fMaxV (mV 5)))) (mV 6) [some (tD tr), some (.int (a0 : Nat)), some (.ref s), some (.str "far"), none, some (.ref S.length), none] (S ++ [O.dk farD]) = .ok (((rows.filter fun r => decide ((nextUse tr a0 r.1 : Int) = foldMax (rows.map fun r => (nextUse tr a0 r.1 : Int)))).map (·.1)).map .int) (S ++ [O.dk farD]) := by
    have hS' : (S ++ [O.dk farD])[s]? = some (.dk (dictD rows)) := get_old hS
    have hmi : iA (mV 2) [some (tD tr), some (.int (a0 : Nat)), some (.ref s), some (.str "far"), none, some (.ref S.length), none] (S ++ [O.dk farD]) = .ok ⟨(dictD rows).map fun kv => kD kv.1, fun S => S[s]? = some (.fd (dictD rows)), some s⟩ (S ++ [O.dk farD]) := by
      simp only [iA, mV, aiOf, List.getElem?_cons_succ, List.getElem?_cons_zero, bind_ok, hS']
    have hf : ((S ++ [O.dk farD]).set s (.fd (dictD rows)))[S.length]? = some (.dk farD) := by
      rw [List.getElem?_set_ne (by omega)]; simp
    have hv : farD.map (·.2) = (rows.map fun r => (nextUse tr a0 r.1 : Int)).map .int := by simp [farD]
    rw [mComp_lock (fun d => match d with | .int x => if decide ((nextUse tr a0 x : Int) = foldMax (rows.map fun r => (nextUse tr a0 r.1 : Int))) then some (.int x) else none | _ => none) hmi hS' ?_ (by simp [dictD]; omega)]
    · rw [keys_dict, filterMap_rows (p := fun r => decide ((nextUse tr a0 r.1 : Int) = foldMax (rows.map fun r => (nextUse tr a0 r.1 : Int)))) fun r _ => rfl]
    · intro d hd
      rw [keys_dict] at hd
      obtain ⟨r, hr, rfl⟩ := List.mem_map.mp hd
      have g1 : getK farD (.inl r.1) = some (.int (nextUse tr a0 r.1 : Nat)) := by
        have e : farD = ((rows.map (·.1)).map fun x => ((.inl x : Key), D.int (nextUse tr a0 x : Nat))) := by simp [farD]
        rw [e]
        have : ∀ xs : List Int, r.1 ∈ xs → getK (xs.map fun x => ((.inl x : Key), D.int (nextUse tr a0 x : Nat))) (.inl r.1) = some (.int (nextUse tr a0 r.1 : Nat)) := by
          intro xs
          induction xs with
          | nil => intro z; cases z
          | cons x xs ih =>
            intro z
            unfold getK at ih ⊢
            rw [List.map_cons, List.find?_cons]
            by_cases hx : x = r.1
            · subst hx; simp
            · have : decide ((.inl x : Key) = .inl r.1) = false := by simp [hx]
              simp only [this]
              exact ih (by rcases List.mem_cons.mp z with z | z; exact absurd z.symm hx; exact z)
        exact this _ (List.mem_map.mpr ⟨r, hr, rfl⟩)
      have g2 : m2 opIx (mV 5) (mV 6) [some (tD tr), some (.int (a0 : Nat)), some (.ref s), some (.str "far"), none, some (.ref S.length), some (.int r.1)] ((S ++ [O.dk farD]).set s (.fd (dictD rows))) = .ok (.int (nextUse tr a0 r.1 : Nat)) ((S ++ [O.dk farD]).set s (.fd (dictD rows))) := m2_ok rfl rfl (ix_dk hf rfl g1)
      have g3 : m1 fMaxV (mV 5) [some (tD tr), some (.int (a0 : Nat)), some (.ref s), some (.str "far"), none, some (.ref S.length), some (.int r.1)] ((S ++ [O.dk farD]).set s (.fd (dictD rows))) = .ok (.int (foldMax (rows.map fun r => (nextUse tr a0 r.1 : Int)))) ((S ++ [O.dk farD]).set s (.fd (dictD rows))) := by
        have : mV 5 [some (tD tr), some (.int (a0 : Nat)), some (.ref s), some (.str "far"), none, some (.ref S.length), some (.int r.1)] ((S ++ [O.dk farD]).set s (.fd (dictD rows))) = .ok (.ref S.length) ((S ++ [O.dk farD]).set s (.fd (dictD rows))) := rfl
        unfold m1
        rw [this, bind_ok]
        unfold fMaxV
        simp only [hf, hv]
        exact fMax_ints hx
      have g4 : tB (m2 opEq (m2 opIx (mV 5) (mV 6)) (m1 fMaxV (mV 5))) [some (tD tr), some (.int (a0 : Nat)), some (.ref s), some (.str "far"), none, some (.ref S.length), some (.int r.1)] ((S ++ [O.dk farD]).set s (.fd (dictD rows))) = .ok (decide ((nextUse tr a0 r.1 : Int) = foldMax (rows.map fun r => (nextUse tr a0 r.1 : Int)))) ((S ++ [O.dk farD]).set s (.fd (dictD rows))) := tB_ok (m2_ok g2 g3 rfl)
      have e6 : gN 6 (.int r.1) (wipeE [6] [some (tD tr), some (.int (a0 : Nat)), some (.ref s), some (.str "far"), none, some (.ref S.length), none]) ((S ++ [O.dk farD]).set s (.fd (dictD rows))) = .ok [some (tD tr), some (.int (a0 : Nat)), some (.ref s), some (.str "far"), none, some (.ref S.length), some (.int r.1)] ((S ++ [O.dk farD]).set s (.fd (dictD rows))) := rfl
      unfold bodyL
      rw [e6, bind_ok, g4, bind_ok]
      show (if decide ((nextUse tr a0 r.1 : Int) = foldMax (rows.map fun r => (nextUse tr a0 r.1 : Int))) = true then Rs.ok (some (D.int r.1)) ((S ++ [O.dk farD]).set s (.fd (dictD rows))) else Rs.ok none ((S ++ [O.dk farD]).set s (.fd (dictD rows)))) = _
      show _ = Rs.ok (if decide ((nextUse tr a0 r.1 : Int) = foldMax (rows.map fun r => (nextUse tr a0 r.1 : Int))) = true then some (D.int r.1) else none) _
      generalize decide ((nextUse tr a0 r.1 : Int) = foldMax (rows.map fun r => (nextUse tr a0 r.1 : Int))) = bb
      cases bb <;> rfl
  have hne2 : ((rows.filter fun r => decide ((nextUse tr a0 r.1 : Int) = foldMax (rows.map fun r => (nextUse tr a0 r.1 : Int)))).map (·.1)) ≠ [] := by
    intro z
    obtain ⟨r, hr, e⟩ := List.mem_map.mp (foldMax_mem hx)
    have : r ∈ rows.filter fun r => decide ((nextUse tr a0 r.1 : Int) = foldMax (rows.map fun r => (nextUse tr a0 r.1 : Int))) := List.mem_filter.mpr ⟨hr, decide_eq_true e⟩
    rw [List.map_eq_nil_iff.mp z] at this
    cases this
  unfold m_goes b_goes
  have e0 : tB (m2 opEq (mV 3) (mC (.str "far"))) (startE 7 [tD tr, .int (a0 : Nat), .ref s, .str "far"]) S = .ok true S := tB_ok (m2_ok rfl rfl (by rw [eq_str, decide_eq_true rfl]))
  refine def_rt (S1 := S ++ [.dk farD]) (d := .int (goFar tr a0 rows)) (seq_rt (if_yes (S1 := S) e0 (seq_ok (asg_ok (d := .ref S.length) (S1 := S ++ [.dk farD]) ?_ rfl) (ret_ok ?_)))) (gc_cut rfl hlow)
  · unfold mAdD
    have : startE 7 [tD tr, .int (a0 : Nat), .ref s, .str "far"] = [some (tD tr), some (.int (a0 : Nat)), some (.ref s), some (.str "far"), none, none, none] := rfl
    rw [this, h1]
    rfl
  · show mTL fMin _ [some (tD tr), some (.int (a0 : Nat)), some (.ref s), some (.str "far"), none, some (.ref S.length), none] _ = _
    unfold mTL
    rw [h2, bind_ok]
    exact fMin_ints hne2
end K33
end M

namespace M
namespace K33
open PySem L2
theorem minKL_rows {key : D → Sto → Rs D} {S : Sto} {f : Rw → Nat} : ∀ {rows : List Rw} {b : Rw}, (∀ r ∈ rows, key (.int r.1) S = .ok (.int (f r : Nat)) S) → minKL key (rows.map fun r => D.int r.1) (.int b.1) (f b : Nat) S = .ok (.int (goMin f rows b).1) S
  | [], b, _ => rfl
  | r :: rs, b, h => by
    rw [List.map_cons, minKL, h r (List.mem_cons_self ..), noX_ok, bind_ok, goMin]
    have h' : ∀ q ∈ rs, key (.int q.1) S = .ok (.int (f q : Nat)) S := fun q hq => h q (List.mem_cons_of_mem _ hq)
    show (if (f r : Int) < (f b : Int) then minKL key _ _ _ S else minKL key _ _ _ S) = _
    by_cases hc : f r < f b
    · rw [if_pos (by omega), if_pos hc, minKL_rows h']
    · rw [if_neg (by omega), if_neg hc, minKL_rows h']
theorem minK_rows {key : D → Sto → Rs D} {S : Sto} {f : Rw → Nat} {rows : List Rw} (hne : rows ≠ []) (h : ∀ r ∈ rows, key (.int r.1) S = .ok (.int (f r : Nat)) S) : minK key (rows.map fun r => D.int r.1) S = .ok (.int (goKey f rows)) S := by
  cases rows with
  | nil => exact absurd rfl hne
  | cons r rs =>
    rw [List.map_cons, minK, h r (List.mem_cons_self ..), noX_ok, bind_ok]
    exact minKL_rows fun q hq => h q (List.mem_cons_of_mem _ hq)
/-- the column that a rule looks at -/
def colF (rule : Str) : Rw → Nat := fun r => if rule = "first" then r.2.1 else r.2.2.1
theorem goes_key {P : Addr} {tr : Tr} {a0 s : Nat} {rule : Str} {rows : List Rw} {S : Sto} (hf : rule ≠ "far") (hT : S[0]? = some (.tb P "goes.<locals>.<lambda>")) (hS : S[s]? = some (.dk (dictD rows))) (hn : (rows.map (·.1)).Nodup) (hne : rows ≠ []) :
    m_goes P [tD tr, .int (a0 : Nat), .ref s, .str rule] S = .ok (.int (goKey (colF rule) rows)) S := by
  have hs := (List.getElem?_eq_some_iff.mp hS).1
  have e0 : tB (m2 opEq (mV 3) (mC (.str "far"))) (startE 7 [tD tr, .int (a0 : Nat), .ref s, .str rule]) S = .ok false S := tB_ok (m2_ok rfl rfl (by rw [eq_str, decide_eq_false hf]))
  have e1 : mIfE (tB (m2 opEq (mV 3) (mC (.str "first")))) (mC (.int 0)) (mC (.int 1)) (startE 7 [tD tr, .int (a0 : Nat), .ref s, .str rule]) S = .ok (.int (if rule = "first" then 0 else 1)) S := by
    have : tB (m2 opEq (mV 3) (mC (.str "first"))) (startE 7 [tD tr, .int (a0 : Nat), .ref s, .str rule]) S = .ok (decide (rule = "first")) S := tB_ok (m2_ok rfl rfl rfl)
    unfold mIfE
    rw [this, bind_ok]
    by_cases h : rule = "first"
    · rw [decide_eq_true h, if_pos rfl, if_pos h]; rfl
    · rw [decide_eq_false h, if_neg (by simp), if_neg h]; rfl
  have hS' : (S.set s (.fd (dictD rows)))[s]? = some (.fd (dictD rows)) := by simp [hs]
  have e2 : mMinKey P "goes.<locals>.<lambda>" 0 6 (mV 2) (m2 opIx (m2 opIx (mV 2) (mV 6)) (mV 4)) [some (tD tr), some (.int (a0 : Nat)), some (.ref s), some (.str rule), some (.int (if rule = "first" then 0 else 1)), none, none] S = .ok (.int (goKey (colF rule) rows)) S := by
    have a1 : mV 2 [some (tD tr), some (.int (a0 : Nat)), some (.ref s), some (.str rule), some (.int (if rule = "first" then 0 else 1)), none, none] S = .ok (.ref s) S := rfl
    have a2 : keysOf S (.ref s) = some (s, dictD rows) := by unfold keysOf; simp only [hS]
    unfold mMinKey
    rw [a1, bind_ok]
    simp only [hT]
    rw [if_pos ⟨trivial, trivial⟩, a2]
    show (minK _ ((dictD rows).map fun kv => kD kv.1) (S.set s (.fd (dictD rows)))).bind _ = _
    rw [keys_dict, minK_rows (f := colF rule) hne fun r hr => ?_]
    · rw [bind_ok]
      unfold unl
      simp only [hS']
      rw [set_self hS]
    · have g : getK (dictD rows) (.inl r.1) = some (rowV r) := by rw [getK_dict, look_mem hn hr]; rfl
      have g1 : m2 opIx (mV 2) (mV 6) [some (tD tr), some (.int (a0 : Nat)), some (.ref s), some (.str rule), some (.int (if rule = "first" then 0 else 1)), none, some (.int r.1)] (S.set s (.fd (dictD rows))) = .ok (rowV r) (S.set s (.fd (dictD rows))) := m2_ok rfl rfl (ix_fd hS' rfl g)
      refine m2_ok g1 rfl ?_
      unfold colF rowV
      by_cases h : rule = "first"
      · rw [if_pos h, if_pos h]; rfl
      · rw [if_neg h, if_neg h]; rfl
  unfold m_goes b_goes
  exact def_rt (S1 := S) (seq_ok (if_no e0 rfl) (seq_ok (asg_ok e1 rfl) (ret_ok e2))) (gc_same rfl)
def goesR (tr : Tr) (at' : Nat) (rows : List Rw) (rule : Str) : Int := if rule = "far" then goFar tr at' rows else goKey (colF rule) rows
theorem goes_ok {P : Addr} {tr : Tr} {a0 s : Nat} {rule : Str} {rows : List Rw} {S : Sto} (hT : S[0]? = some (.tb P "goes.<locals>.<lambda>")) (hS : S[s]? = some (.dk (dictD rows))) (hlow : Low S) (hn : (rows.map (·.1)).Nodup) (hne : rows ≠ []) (ha : a0 < tr.length) (hl : tr.length ≤ 1000000) (hr : rows.length ≤ 1000000) :
    m_goes P [tD tr, .int (a0 : Nat), .ref s, .str rule] S = .ok (.int (goesR tr a0 rows rule)) S := by
  unfold goesR
  by_cases h : rule = "far"
  · rw [if_pos h, h]; exact goes_far hS hlow hn hne ha hl hr
  · rw [if_neg h]; exact goes_key h hT hS hn hne
theorem goMin_mem {f : Rw → Nat} : ∀ {rows : List Rw} {b : Rw}, goMin f rows b ∈ b :: rows
  | [], b => by simp [goMin]
  | r :: rs, b => by
    rw [goMin]
    split
    · exact List.mem_cons_of_mem _ (goMin_mem (rows := rs) (b := r))
    · rcases List.mem_cons.mp (goMin_mem (f := f) (rows := rs) (b := b)) with h | h
      · rw [h]; exact List.mem_cons_self ..
      · exact List.mem_cons_of_mem _ (List.mem_cons_of_mem _ h)
theorem foldMin_mem : ∀ {ns : List Int}, ns ≠ [] → foldMin ns ∈ ns
  | [], h => absurd rfl h
  | n :: ns, _ => (foldl_min_spec ns n).2
theorem goesR_mem {tr : Tr} {a0 : Nat} {rule : Str} {rows : List Rw} (hne : rows ≠ []) : goesR tr a0 rows rule ∈ rows.map (·.1) := by
  unfold goesR
  by_cases h : rule = "far"
  · rw [if_pos h]
    have hx : rows.map (fun r => (nextUse tr a0 r.1 : Int)) ≠ [] := by simpa using hne
    have hne2 : ((rows.filter fun r => decide ((nextUse tr a0 r.1 : Int) = foldMax (rows.map fun r => (nextUse tr a0 r.1 : Int)))).map (·.1)) ≠ [] := by
      intro z
      obtain ⟨r, hr, e⟩ := List.mem_map.mp (foldMax_mem hx)
      have : r ∈ rows.filter fun r => decide ((nextUse tr a0 r.1 : Int) = foldMax (rows.map fun r => (nextUse tr a0 r.1 : Int))) := List.mem_filter.mpr ⟨hr, decide_eq_true e⟩
      rw [List.map_eq_nil_iff.mp z] at this
      cases this
    obtain ⟨r, hr, e⟩ := List.mem_map.mp (foldMin_mem hne2)
    exact List.mem_map.mpr ⟨r, (List.mem_filter.mp hr).1, e⟩
  · rw [if_neg h]
    cases rows with
    | nil => exact absurd rfl hne
    | cons r rs => exact List.mem_map.mpr ⟨_, goMin_mem, rfl⟩
end K33
end M

namespace M
namespace K33
open PySem L2
/-! ### the walk over a trace -/
abbrev StM := List Rw × Nat × Nat
def dirtyN (r : Option Rw) : Nat := match r with
  | some r => if r.2.2.2 then 1 else 0
  | none => 0
def evict (tr : Tr) (room : Nat) (rule : Str) (at' : Nat) (rows : List Rw) (p : Nat) : List Rw × Nat :=
  if rows.length = room then (rows.filter (fun r => r.1 != goesR tr at' rows rule), p + dirtyN (lookR rows (goesR tr at' rows rule))) else (rows, p)
def comeM (tr : Tr) (room : Nat) (rule : Str) (at' : Nat) (x : Int) (st : StM) : StM :=
  if (lookR st.1 x).isSome = true then st else (setR (evict tr room rule at' st.1 st.2.2).1 (x, at', at', false), st.2.1 + 1, (evict tr room rule at' st.1 st.2.2).2)
def touchM (at' : Nat) (x : Int × Bool) (st : StM) : StM :=
  (setR st.1 (x.1, ((lookR st.1 x.1).getD (x.1, at', at', false)).2.1, at', ((lookR st.1 x.1).getD (x.1, at', at', false)).2.2.2 || x.2), st.2)
def runN (tr : Tr) (room : Nat) (rule : Str) : Nat → StM
  | 0 => ([], 0, 0)
  | i + 1 => match tr[i]? with
    | some x => touchM i x (comeM tr room rule i x.1 (runN tr room rule i))
    | none => runN tr room rule i
def movesR (tr : Tr) (room : Nat) (rule : Str) : Nat × Nat :=
  ((runN tr room rule tr.length).2.1, (runN tr room rule tr.length).2.2 + ((runN tr room rule tr.length).1.map fun r => if r.2.2.2 then 1 else 0).sum)
abbrev EE (tr : Tr) (room : Nat) (rule : Str) (s f p : Nat) (a l w c u d : Option D) : En := [some (tD tr), some (.int (room : Nat)), some (.str rule), some (.ref s), some (.int (f : Nat)), some (.int (p : Nat)), a, l, w, c, u, d, none]
/-! rows: one line each -/
def Lines (rows : List Rw) : Prop := (rows.map (·.1)).Nodup
theorem look_none {rows : List Rw} {x : Int} : lookR rows x = none ↔ x ∉ rows.map (·.1) := by
  unfold lookR
  rw [List.find?_eq_none]
  constructor
  · intro h z
    obtain ⟨r, hr, e⟩ := List.mem_map.mp z
    exact h r hr (by simpa using e)
  · intro h r hr z
    exact h (List.mem_map.mpr ⟨r, hr, by simpa using z⟩)
theorem look_some {rows : List Rw} {x : Int} {r : Rw} (h : lookR rows x = some r) : r ∈ rows ∧ r.1 = x := by
  unfold lookR at h
  exact ⟨List.mem_of_find?_eq_some h, by simpa using List.find?_some h⟩
theorem setR_lines {rows : List Rw} {r : Rw} : (setR rows r).map (·.1) = if r.1 ∈ rows.map (·.1) then rows.map (·.1) else rows.map (·.1) ++ [r.1] := by
  unfold setR
  have e : (rows.any fun q => q.1 == r.1) = true ↔ r.1 ∈ rows.map (·.1) := by
    rw [List.any_eq_true]
    constructor
    · rintro ⟨q, hq, e⟩
      exact List.mem_map.mpr ⟨q, hq, by simpa using e⟩
    · intro h
      obtain ⟨q, hq, e⟩ := List.mem_map.mp h
      exact ⟨q, hq, by simpa using e⟩
  by_cases h : r.1 ∈ rows.map (·.1)
  · rw [if_pos (e.mpr h), if_pos h, List.map_map]
    refine List.map_congr_left fun q _ => ?_
    simp only [Function.comp]
    by_cases hq : q.1 = r.1
    · rw [if_pos (by simpa using hq)]; exact hq.symm
    · rw [if_neg (by simpa using hq)]
  · rw [if_neg fun z => h (e.mp z), if_neg h, List.map_append]; rfl
theorem Lines.set {rows : List Rw} (h : Lines rows) (r : Rw) : Lines (setR rows r) := by
  unfold Lines at h ⊢
  rw [setR_lines]
  split
  · exact h
  · rename_i hn
    rw [List.nodup_append]
    refine ⟨h, by simp, fun a ha b hb z => ?_⟩
    rw [List.mem_singleton] at hb
    exact hn (hb ▸ z ▸ ha)
theorem setR_length {rows : List Rw} {r : Rw} : (setR rows r).length ≤ rows.length + 1 := by
  unfold setR; split <;> simp
theorem Lines.filter {rows : List Rw} (h : Lines rows) (p : Rw → Bool) : Lines (rows.filter p) := by
  unfold Lines at h ⊢
  exact List.Nodup.sublist (List.Sublist.map _ List.filter_sublist) h
theorem Lines.evic {rows : List Rw} (h : Lines rows) {tr : Tr} {room : Nat} {rule : Str} {a p : Nat} : Lines (evict tr room rule a rows p).1 := by
  unfold evict
  split
  · exact h.filter _
  · exact h
theorem evict_length {rows : List Rw} {tr : Tr} {room : Nat} {rule : Str} {a p : Nat} : (evict tr room rule a rows p).1.length ≤ rows.length := by
  unfold evict
  split
  · exact List.length_filter_le ..
  · exact Nat.le_refl _
theorem Lines.come {tr : Tr} {room : Nat} {rule : Str} {a : Nat} {x : Int} {st : StM} (h : Lines st.1) : Lines (comeM tr room rule a x st).1 := by
  unfold comeM
  split
  · exact h
  · exact h.evic.set _
theorem come_length {tr : Tr} {room : Nat} {rule : Str} {a : Nat} {x : Int} {st : StM} : (comeM tr room rule a x st).1.length ≤ st.1.length + 1 := by
  unfold comeM
  split
  · exact Nat.le_succ _
  · exact Nat.le_trans setR_length (Nat.add_le_add_right evict_length 1)
theorem setR_look {rows : List Rw} {r : Rw} : lookR (setR rows r) r.1 = some r := by
  unfold setR
  by_cases h : (rows.any fun q => q.1 == r.1) = true
  · rw [if_pos h]
    unfold lookR
    induction rows with
    | nil => cases h
    | cons q rs ih =>
      rw [List.map_cons, List.find?_cons]
      by_cases hq : q.1 = r.1
      · simp [hq]
      · have e : (q.1 == r.1) = false := by simpa using hq
        rw [List.any_cons, e, Bool.false_or] at h
        rw [if_neg (by simp [hq])]
        simp only [e]
        exact ih h
  · rw [if_neg h]
    unfold lookR
    rw [List.find?_append]
    have : rows.find? (fun q => q.1 == r.1) = none := by
      rw [List.find?_eq_none]
      intro q hq z
      exact h (List.any_eq_true.mpr ⟨q, hq, z⟩)
    rw [this]
    simp
theorem come_look {tr : Tr} {room : Nat} {rule : Str} {a : Nat} {x : Int} {st : StM} : ∃ r, lookR (comeM tr room rule a x st).1 x = some r ∧ r.1 = x := by
  unfold comeM
  split
  · rename_i h
    obtain ⟨r, hr⟩ := Option.isSome_iff_exists.mp h
    exact ⟨r, hr, (look_some hr).2⟩
  · exact ⟨_, setR_look, rfl⟩
end K33
end M

namespace M
namespace K33
open PySem L2
theorem set_dict {n : Nat} {S0 : Sto} {rows : List Rw} {r : Rw} (hl : rows.length ≤ 1000000) : fSet (.ref S0.length) (.int r.1) (rowV r) (S0 ++ [.dk (dictD rows)]) = .ok () (S0 ++ [.dk (dictD (setR rows r))]) := by
  refine (set_dk (k := .inl r.1) (kvs := dictD rows) (get_end ..) rfl ?_).trans ?_
  · have : (1000000 : Nat) < sizeLine := by decide
    simp only [dictD, List.length_map]; omega
  · rw [setK_dict]; exact congrArg (Rs.ok ()) (set_end _ _ _)
/-- a line comes -/
theorem come_ok {P : Addr} {tr : Tr} {room : Nat} {rule : Str} {i : Nat} {x : Int × Bool} {st : StM} {S0 : Sto} {c u d : Option D} (hT : S0[0]? = some (.tb P "goes.<locals>.<lambda>")) (hlow : Low S0) (hi : i < tr.length) (hl : tr.length ≤ 1000000) (hr : 1 ≤ room) (hn : Lines st.1) (hz : st.1.length ≤ i) :
    sIf (tB (m2 opNotIn (mV 7) (mV 3))) (sSeq (sIf (tB (m2 opEq (mN fLen (aCons (mV 3) (aNil))) (mV 1))) (sAug 5 (mN fInt (aCons (m2 opIx (mPop (mV 3) (mN (mCl 4 (m_goes P)) (aCons (mV 0) (aCons (mV 6) (aCons (mV 3) (aCons (mV 2) (aNil))))))) (mC (.int 2))) (aNil))) (opI fun i j => i + j)) (sNil)) (sSeq (sAsg (mTup (aCons (mV 6) (aCons (mV 6) (aCons (mC (.bl false)) (aNil))))) (gS fSet (mV 3) (mV 7))) (sAug 4 (mC (.int 1)) (opI fun i j => i + j)))) (sNil)
      (EE tr room rule S0.length st.2.1 st.2.2 (some (.int (i : Nat))) (some (.int x.1)) (some (.bl x.2)) c u d) (S0 ++ [.dk (dictD st.1)])
    = .ok (.nx (EE tr room rule S0.length (comeM tr room rule i x.1 st).2.1 (comeM tr room rule i x.1 st).2.2 (some (.int (i : Nat))) (some (.int x.1)) (some (.bl x.2)) c u d)) (S0 ++ [.dk (dictD (comeM tr room rule i x.1 st).1)]) := by
  obtain ⟨rows, f, p⟩ := st
  have hz' : rows.length ≤ i := hz
  have hd : (S0 ++ [O.dk (dictD rows)])[S0.length]? = some (.dk (dictD rows)) := get_end ..
  have hk : toKey (.int x.1) = some (.inl x.1) := rfl
  have t0 : tB (m2 opNotIn (mV 7) (mV 3)) (EE tr room rule S0.length f p (some (.int (i : Nat))) (some (.int x.1)) (some (.bl x.2)) c u d) (S0 ++ [.dk (dictD rows)]) = .ok (!(lookR rows x.1).isSome) (S0 ++ [.dk (dictD rows)]) := by
    refine tB_ok (m2_ok rfl rfl ?_)
    rw [notin_dk hd hk, getK_dict, Option.isSome_map]
  by_cases hc : (lookR rows x.1).isSome = true
  · have e : comeM tr room rule i x.1 (rows, f, p) = (rows, f, p) := by unfold comeM; rw [if_pos hc]
    rw [e]
    refine if_no (S1 := S0 ++ [.dk (dictD rows)]) ?_ rfl
    rw [t0, hc]; rfl
  · have e : comeM tr room rule i x.1 (rows, f, p) = (setR (evict tr room rule i rows p).1 (x.1, i, i, false), f + 1, (evict tr room rule i rows p).2) := by unfold comeM; rw [if_neg hc]
    rw [e]
    have hc' : (lookR rows x.1).isSome = false := by simpa using hc
    refine if_yes (S1 := S0 ++ [.dk (dictD rows)]) (by rw [t0, hc']; rfl) ?_
    have h1 : sIf (tB (m2 opEq (mN fLen (aCons (mV 3) (aNil))) (mV 1))) (sAug 5 (mN fInt (aCons (m2 opIx (mPop (mV 3) (mN (mCl 4 (m_goes P)) (aCons (mV 0) (aCons (mV 6) (aCons (mV 3) (aCons (mV 2) (aNil))))))) (mC (.int 2))) (aNil))) (opI fun i j => i + j)) (sNil)
        (EE tr room rule S0.length f p (some (.int (i : Nat))) (some (.int x.1)) (some (.bl x.2)) c u d) (S0 ++ [.dk (dictD rows)])
        = .ok (.nx (EE tr room rule S0.length f (evict tr room rule i rows p).2 (some (.int (i : Nat))) (some (.int x.1)) (some (.bl x.2)) c u d)) (S0 ++ [.dk (dictD (evict tr room rule i rows p).1)]) := by
      have t1 : tB (m2 opEq (mN fLen (aCons (mV 3) (aNil))) (mV 1)) (EE tr room rule S0.length f p (some (.int (i : Nat))) (some (.int x.1)) (some (.bl x.2)) c u d) (S0 ++ [.dk (dictD rows)]) = .ok (decide (((dictD rows).length : Int) = (room : Int))) (S0 ++ [.dk (dictD rows)]) := by
        have : mN fLen (aCons (mV 3) (aNil)) (EE tr room rule S0.length f p (some (.int (i : Nat))) (some (.int x.1)) (some (.bl x.2)) c u d) (S0 ++ [.dk (dictD rows)]) = .ok (.int (dictD rows).length) (S0 ++ [.dk (dictD rows)]) := by
          show fLen [.ref S0.length] (S0 ++ [.dk (dictD rows)]) = _
          exact len_dk hd
        exact tB_ok (m2_ok this rfl rfl)
      have hlen : (dictD rows).length = rows.length := by simp [dictD]
      by_cases hq : rows.length = room
      · have hne : rows ≠ [] := by intro z; rw [z] at hq; simp at hq; omega
        have ev : evict tr room rule i rows p = (rows.filter (fun r => r.1 != goesR tr i rows rule), p + dirtyN (lookR rows (goesR tr i rows rule))) := by unfold evict; rw [if_pos hq]
        rw [ev]
        refine if_yes (S1 := S0 ++ [.dk (dictD rows)]) (by rw [t1, decide_eq_true (by rw [hlen, hq])]) ?_
        obtain ⟨r, hr, er⟩ := List.mem_map.mp (goesR_mem (tr := tr) (a0 := i) (rule := rule) hne)
        have hlk : lookR rows (goesR tr i rows rule) = some r := by rw [← er]; exact look_mem hn hr
        have g0 : mN (mCl 4 (m_goes P)) (aCons (mV 0) (aCons (mV 6) (aCons (mV 3) (aCons (mV 2) (aNil))))) (EE tr room rule S0.length f p (some (.int (i : Nat))) (some (.int x.1)) (some (.bl x.2)) c u d) (S0 ++ [.dk (dictD rows)]) = .ok (.int (goesR tr i rows rule)) (S0 ++ [.dk (dictD rows)]) :=
          call_ok rfl rfl (goes_ok (get_old hT) hd (hlow.snoc lowDs_rows) hn hne hi hl (by omega))
        have g1 : mPop (mV 3) (mN (mCl 4 (m_goes P)) (aCons (mV 0) (aCons (mV 6) (aCons (mV 3) (aCons (mV 2) (aNil)))))) (EE tr room rule S0.length f p (some (.int (i : Nat))) (some (.int x.1)) (some (.bl x.2)) c u d) (S0 ++ [.dk (dictD rows)]) = .ok (rowV r) (S0 ++ [.dk (dictD (rows.filter fun r => r.1 != goesR tr i rows rule))]) := by
          have a1 : mV 3 (EE tr room rule S0.length f p (some (.int (i : Nat))) (some (.int x.1)) (some (.bl x.2)) c u d) (S0 ++ [.dk (dictD rows)]) = .ok (.ref S0.length) (S0 ++ [.dk (dictD rows)]) := rfl
          have a2 : isDk (S0 ++ [.dk (dictD rows)]) (.ref S0.length) = true := by unfold isDk; simp only [hd]
          unfold mPop
          rw [a1, bind_ok, if_pos a2, g0, bind_ok]
          have a3 : getK (dictD rows) (.inl (goesR tr i rows rule)) = some (rowV r) := by rw [getK_dict, hlk]; rfl
          unfold fPop
          simp only [hd, key_int, a3]
          rw [set_end, delK_dict]
        have g2 : mN fInt (aCons (m2 opIx (mPop (mV 3) (mN (mCl 4 (m_goes P)) (aCons (mV 0) (aCons (mV 6) (aCons (mV 3) (aCons (mV 2) (aNil))))))) (mC (.int 2))) (aNil)) (EE tr room rule S0.length f p (some (.int (i : Nat))) (some (.int x.1)) (some (.bl x.2)) c u d) (S0 ++ [.dk (dictD rows)]) = .ok (.int (if r.2.2.2 then 1 else 0)) (S0 ++ [.dk (dictD (rows.filter fun r => r.1 != goesR tr i rows rule))]) := by
          have a1 : m2 opIx (mPop (mV 3) (mN (mCl 4 (m_goes P)) (aCons (mV 0) (aCons (mV 6) (aCons (mV 3) (aCons (mV 2) (aNil))))))) (mC (.int 2)) (EE tr room rule S0.length f p (some (.int (i : Nat))) (some (.int x.1)) (some (.bl x.2)) c u d) (S0 ++ [.dk (dictD rows)]) = .ok (.bl r.2.2.2) (S0 ++ [.dk (dictD (rows.filter fun r => r.1 != goesR tr i rows rule))]) := m2_ok g1 rfl rfl
          exact n1_ok a1 rfl
        have e3 : ((p : Int) + if r.2.2.2 = true then (1 : Int) else 0) = ((p + dirtyN (lookR rows (goesR tr i rows rule)) : Nat) : Int) := by
          rw [hlk]
          show _ = ((p + (if r.2.2.2 = true then 1 else 0) : Nat) : Int)
          generalize r.2.2.2 = b
          cases b <;> simp
        refine (aug_ok (z := .int ((p + dirtyN (lookR rows (goesR tr i rows rule)) : Nat) : Int)) rfl g2 ?_).trans rfl
        show Rs.ok (D.int ((p : Int) + if r.2.2.2 = true then (1 : Int) else 0)) _ = _
        rw [e3]
      · have ev : evict tr room rule i rows p = (rows, p) := by unfold evict; rw [if_neg hq]
        rw [ev]
        exact if_no (S1 := S0 ++ [.dk (dictD rows)]) (by rw [t1, decide_eq_false (by rw [hlen]; omega)]) rfl
    refine seq_ok h1 ?_
    have hev : (evict tr room rule i rows p).1.length ≤ 1000000 := by
      have := evict_length (tr := tr) (room := room) (rule := rule) (a := i) (p := p) (rows := rows)
      have : rows.length ≤ i := hz
      omega
    refine seq_ok (asg_ok (d := rowV (x.1, i, i, false)) (S1 := S0 ++ [.dk (dictD (evict tr room rule i rows p).1)]) ?_ (gS_ok rfl rfl (set_dict (n := 0) (r := (x.1, i, i, false)) hev))) ?_
    · rfl
    · have e4 : ((f : Int) + 1) = ((f + 1 : Nat) : Int) := by omega
      refine (aug_ok (y := .int 1) (S1 := S0 ++ [.dk (dictD (setR (evict tr room rule i rows p).1 (x.1, i, i, false)))]) (z := .int ((f + 1 : Nat) : Int)) rfl rfl ?_).trans rfl
      show Rs.ok (D.int ((f : Int) + 1)) _ = _
      rw [e4]
/-- a line is used -/
theorem touch_ok {tr : Tr} {room : Nat} {rule : Str} {i : Nat} {x : Int × Bool} {st : StM} {S0 : Sto} {c u d : Option D} {r : Rw} (hk : lookR st.1 x.1 = some r) (hz : st.1.length ≤ 1000000) :
    sSeq (sAsg (m2 opIx (mV 3) (mV 7)) (gT 3 (gCons (gN 9) (gCons (gN 10) (gCons (gN 11) (gNil)))))) (sAsg (mTup (aCons (mV 9) (aCons (mV 6) (aCons (vOr (mV 11) (mV 8)) (aNil))))) (gS fSet (mV 3) (mV 7)))
      (EE tr room rule S0.length st.2.1 st.2.2 (some (.int (i : Nat))) (some (.int x.1)) (some (.bl x.2)) c u d) (S0 ++ [.dk (dictD st.1)])
    = .ok (.nx (EE tr room rule S0.length (touchM i x st).2.1 (touchM i x st).2.2 (some (.int (i : Nat))) (some (.int x.1)) (some (.bl x.2)) (some (.int (r.2.1 : Nat))) (some (.int (r.2.2.1 : Nat))) (some (.bl r.2.2.2)))) (S0 ++ [.dk (dictD (touchM i x st).1)]) := by
  obtain ⟨rows, f, p⟩ := st
  have hd : (S0 ++ [O.dk (dictD rows)])[S0.length]? = some (.dk (dictD rows)) := get_end ..
  have g : getK (dictD rows) (.inl x.1) = some (rowV r) := by rw [getK_dict, hk]; rfl
  refine seq_ok (asg_ok (m2_ok rfl rfl (ix_dk hd rfl g)) rfl) ?_
  have et : touchM i x (rows, f, p) = (setR rows (x.1, r.2.1, i, r.2.2.2 || x.2), f, p) := by unfold touchM; rw [hk]; rfl
  rw [et]
  refine asg_ok (d := rowV (x.1, r.2.1, i, r.2.2.2 || x.2)) (S1 := S0 ++ [.dk (dictD rows)]) ?_ (gS_ok rfl rfl (set_dict (n := 0) (r := (x.1, r.2.1, i, r.2.2.2 || x.2)) hz))
  unfold rowV
  cases r.2.2.2 <;> rfl
end K33
end M

namespace M
namespace K33
open PySem L2
theorem setR_same {rows : List Rw} {r q : Rw} (h : lookR rows r.1 = some q) : (setR rows r).length = rows.length := by
  unfold setR
  obtain ⟨hq, e⟩ := look_some h
  rw [if_pos (List.any_eq_true.mpr ⟨q, hq, by simpa using e⟩), List.length_map]
theorem rule_in {rule : Str} {E : En} {S : Sto} (hr : rule = "first" ∨ rule = "old" ∨ rule = "far") : opNotIn (.str rule) c_RULES S = .ok (.bl false) S := by
  rcases hr with rfl | rfl | rfl <;> simp [opNotIn, inD, inF, flatD, eqF, c_RULES]
theorem moves_loop {P : Addr} {tr : Tr} {room : Nat} {rule : Str} {S0 : Sto} (hT : S0[0]? = some (.tb P "goes.<locals>.<lambda>")) (hlow : Low S0) (hl : tr.length ≤ 1000000) (hr : 1 ≤ room) :
    ∃ a l w c u d, sFor (iEn (aCons (mV 0) (aNil))) (gT 2 (gCons (gN 6) (gCons (gT 2 (gCons (gN 7) (gCons (gN 8) (gNil)))) (gNil)))) (sSeq (sIf (tB (m2 opNotIn (mV 7) (mV 3))) (sSeq (sIf (tB (m2 opEq (mN fLen (aCons (mV 3) (aNil))) (mV 1))) (sAug 5 (mN fInt (aCons (m2 opIx (mPop (mV 3) (mN (mCl 4 (m_goes P)) (aCons (mV 0) (aCons (mV 6) (aCons (mV 3) (aCons (mV 2) (aNil))))))) (mC (.int 2))) (aNil))) (opI fun i j => i + j)) (sNil)) (sSeq (sAsg (mTup (aCons (mV 6) (aCons (mV 6) (aCons (mC (.bl false)) (aNil))))) (gS fSet (mV 3) (mV 7))) (sAug 4 (mC (.int 1)) (opI fun i j => i + j)))) (sNil)) (sSeq (sAsg (m2 opIx (mV 3) (mV 7)) (gT 3 (gCons (gN 9) (gCons (gN 10) (gCons (gN 11) (gNil)))))) (sAsg (mTup (aCons (mV 9) (aCons (mV 6) (aCons (vOr (mV 11) (mV 8)) (aNil))))) (gS fSet (mV 3) (mV 7)))))
      (EE tr room rule S0.length 0 0 none none none none none none) (S0 ++ [.dk []])
      = .ok (.nx (EE tr room rule S0.length (runN tr room rule tr.length).2.1 (runN tr room rule tr.length).2.2 a l w c u d)) (S0 ++ [.dk (dictD (runN tr room rule tr.length).1)]) ∧ Lines (runN tr room rule tr.length).1 ∧ (runN tr room rule tr.length).1.length ≤ tr.length := by
  obtain ⟨E1, S2, e, a, l, w, c, u, d, rfl, rfl, h1, h2⟩ := for_ind (mi := iEn (aCons (mV 0) (aNil))) (g := gT 2 (gCons (gN 6) (gCons (gT 2 (gCons (gN 7) (gCons (gN 8) (gNil)))) (gNil))))
    (mb := sSeq (sIf (tB (m2 opNotIn (mV 7) (mV 3))) (sSeq (sIf (tB (m2 opEq (mN fLen (aCons (mV 3) (aNil))) (mV 1))) (sAug 5 (mN fInt (aCons (m2 opIx (mPop (mV 3) (mN (mCl 4 (m_goes P)) (aCons (mV 0) (aCons (mV 6) (aCons (mV 3) (aCons (mV 2) (aNil))))))) (mC (.int 2))) (aNil))) (opI fun i j => i + j)) (sNil)) (sSeq (sAsg (mTup (aCons (mV 6) (aCons (mV 6) (aCons (mC (.bl false)) (aNil))))) (gS fSet (mV 3) (mV 7))) (sAug 4 (mC (.int 1)) (opI fun i j => i + j)))) (sNil)) (sSeq (sAsg (m2 opIx (mV 3) (mV 7)) (gT 3 (gCons (gN 9) (gCons (gN 10) (gCons (gN 11) (gNil)))))) (sAsg (mTup (aCons (mV 9) (aCons (mV 6) (aCons (vOr (mV 11) (mV 8)) (aNil))))) (gS fSet (mV 3) (mV 7)))))
    (E := EE tr room rule S0.length 0 0 none none none none none none) (S := S0 ++ [.dk []]) (S1 := S0 ++ [.dk []]) (items := pairsN (tr.map eD)) (gd := fun _ => True)
    (fun i E S => ∃ a l w c u d, E = EE tr room rule S0.length (runN tr room rule i).2.1 (runN tr room rule i).2.2 a l w c u d ∧ S = S0 ++ [.dk (dictD (runN tr room rule i).1)] ∧ Lines (runN tr room rule i).1 ∧ (runN tr room rule i).1.length ≤ i)
    rfl ⟨none, none, none, none, none, none, rfl, rfl, List.nodup_nil, Nat.le_refl _⟩ (fun _ _ _ _ => trivial) (by
      rintro i dd E S hi ⟨a, l, w, c, u, d, rfl, rfl, h1, h2⟩
      obtain ⟨y, hy, rfl⟩ := pairsN_get hi
      rw [List.getElem?_map] at hy
      cases hx : tr[i]? with
      | none => rw [hx] at hy; cases hy
      | some x =>
        rw [hx] at hy
        obtain rfl : eD x = y := Option.some.inj hy
        have hlt := (List.getElem?_eq_some_iff.mp hx).1
        obtain ⟨r, hr1, hr2⟩ := come_look (tr := tr) (room := room) (rule := rule) (a := i) (x := x.1) (st := runN tr room rule i)
        have hcl := come_length (tr := tr) (room := room) (rule := rule) (a := i) (x := x.1) (st := runN tr room rule i)
        have e1 : runN tr room rule (i + 1) = touchM i x (comeM tr room rule i x.1 (runN tr room rule i)) := by rw [runN]; simp only [hx]
        refine ⟨_, _, (seq_ok (come_ok (c := c) (u := u) (d := d) (x := x) hT hlow hlt hl hr h1 h2) (touch_ok (r := r) hr1 (by omega))), _, _, _, _, _, _, by rw [e1], by rw [e1], ?_, ?_⟩
        · rw [e1]; exact h1.come.set _
        · rw [e1]
          have : (touchM i x (comeM tr room rule i x.1 (runN tr room rule i))).1.length = (comeM tr room rule i x.1 (runN tr room rule i)).1.length := setR_same (r := (x.1, _, _, _)) hr1
          rw [this]; omega)
  have hlen : (pairsN (tr.map eD)).length = tr.length := by simp [pairsN]
  rw [hlen] at e h1 h2
  exact ⟨a, l, w, c, u, d, e, h1, h2⟩
theorem moves_by_ok {P : Addr} {tr : Tr} {room : Nat} {rule : Str} {S0 : Sto} (hT : S0[0]? = some (.tb P "goes.<locals>.<lambda>")) (hlow : Low S0) (hl : tr.length ≤ 1000000) (hr : 1 ≤ room) (hru : rule = "first" ∨ rule = "old" ∨ rule = "far") :
    m_moves_by P [tD tr, .int (room : Nat), .str rule] S0 = .ok (.tup [.int ((movesR tr room rule).1 : Nat), .int ((movesR tr room rule).2 : Nat)]) S0 := by
  obtain ⟨a, l, w, c, u, d, e, h1, h2⟩ := moves_loop (rule := rule) hT hlow hl hr
  have hd : (S0 ++ [O.dk (dictD (runN tr room rule tr.length).1)])[S0.length]? = some (.dk (dictD (runN tr room rule tr.length).1)) := get_end ..
  have hz : (1000000 : Nat) ≤ sizeLine := by decide
  have hc : mComp (fun E S => ((mV 3) E S).bind aiVals) [12] (gN 12) (tYesM) (mN fInt (aCons (m2 opIx (mV 12) (mC (.int 2))) (aNil))) (EE tr room rule S0.length (runN tr room rule tr.length).2.1 (runN tr room rule tr.length).2.2 a l w c u d) (S0 ++ [.dk (dictD (runN tr room rule tr.length).1)]) = .ok (((runN tr room rule tr.length).1.map fun r => if r.2.2.2 then (1 : Int) else 0).map .int) (S0 ++ [.dk (dictD (runN tr room rule tr.length).1)]) := by
    have hmi : (fun E S => ((mV 3) E S).bind aiVals) (EE tr room rule S0.length (runN tr room rule tr.length).2.1 (runN tr room rule tr.length).2.2 a l w c u d) (S0 ++ [.dk (dictD (runN tr room rule tr.length).1)]) = .ok ⟨(dictD (runN tr room rule tr.length).1).map (·.2), fun S => S[S0.length]? = some (.fd (dictD (runN tr room rule tr.length).1)), some S0.length⟩ (S0 ++ [.dk (dictD (runN tr room rule tr.length).1)]) := by
      show aiVals (.ref S0.length) _ = _
      unfold aiVals
      simp only [hd]
    rw [mComp_lock (fun d => match d with | .tup [_, _, .bl b] => some (.int (if b then 1 else 0)) | _ => none) hmi hd ?_ (by simp only [dictD, List.length_map]; omega)]
    · congr 1
      unfold dictD
      rw [List.map_map, List.map_map, List.filterMap_map]
      have : ∀ rows : List Rw, rows.filterMap ((fun d => match d with | .tup [_, _, .bl b] => some (D.int (if b then 1 else 0)) | _ => none) ∘ (fun x => x.2) ∘ rowD) = rows.map (D.int ∘ fun r => if r.2.2.2 then (1 : Int) else 0) := by
        intro rows
        induction rows with
        | nil => rfl
        | cons r rs ih =>
          rw [List.map_cons, ← ih]
          rfl
      exact this _
    · intro y hy
      obtain ⟨kv, hk, rfl⟩ := List.mem_map.mp hy
      obtain ⟨r, _, rfl⟩ := List.mem_map.mp hk
      rfl
  have hs : ∀ rows : List Rw, (rows.map fun r => if r.2.2.2 then (1 : Int) else 0).sum = (((rows.map fun r => if r.2.2.2 then 1 else 0).sum : Nat) : Int) := by
    intro rows
    induction rows with
    | nil => rfl
    | cons r rs ih =>
      rw [List.map_cons, List.sum_cons, List.map_cons, List.sum_cons, ih]
      cases r.2.2.2 <;> simp
  have hp : m2 opAdd (mV 5) (mTL fSum (mComp (fun E S => ((mV 3) E S).bind aiVals) [12] (gN 12) (tYesM) (mN fInt (aCons (m2 opIx (mV 12) (mC (.int 2))) (aNil))))) (EE tr room rule S0.length (runN tr room rule tr.length).2.1 (runN tr room rule tr.length).2.2 a l w c u d) (S0 ++ [.dk (dictD (runN tr room rule tr.length).1)]) = .ok (.int ((movesR tr room rule).2 : Nat)) (S0 ++ [.dk (dictD (runN tr room rule tr.length).1)]) := by
    refine m2_ok (S2 := S0 ++ [.dk (dictD (runN tr room rule tr.length).1)]) (y := .int (((runN tr room rule tr.length).1.map fun r => if r.2.2.2 then (1 : Int) else 0).sum)) rfl ?_ ?_
    · unfold mTL
      rw [hc, bind_ok, sum_ints]
    · rw [add_int, hs]
      unfold movesR
      congr 2
  unfold m_moves_by b_moves_by
  refine def_rt (d := .tup [.int ((movesR tr room rule).1 : Nat), .int ((movesR tr room rule).2 : Nat)]) (S1 := S0 ++ [.dk (dictD (runN tr room rule tr.length).1)]) (seq_ok (if_no (tB_ok (m2_ok rfl rfl (rule_in (E := []) hru))) rfl) (seq_ok rfl (seq_ok e (ret_ok ?_)))) (gc_cut rfl hlow)
  unfold mTup
  rw [cons_ok rfl (cons_ok hp rfl)]
  rfl
end K33
end M

namespace M
namespace K33
open PySem L2
/-! ### draws -/
def townK (c : Int) (r : Nat) : List (Key × D) := [(.inr "count", .int c), (.inr "rests", .ref r)]
/-- the draws' table at t, its rests at r, c draws so far -/
structure Town (S : Sto) (t r c : Nat) : Prop where
  ne : t ≠ r
  low : Low S
  tw : S[t]? = some (.dk (townK c r))
  ex : ∃ rs : List (Key × D), S[r]? = some (.dk rs) ∧ (∀ kv ∈ rs, ∃ i, kv.2 = .int i) ∧ rs.length ≤ c
theorem Town.snoc {S : Sto} {t r c : Nat} {o : O} (h : Town S t r c) (ho : lowO (S.length + 1) o = true) : Town (S ++ [o]) t r c := by
  obtain ⟨rs, h2, h3⟩ := h.ex
  exact ⟨h.ne, h.low.snoc ho, get_old h.tw, rs, get_old h2, h3⟩
theorem getK_int {rs : List (Key × D)} (h : ∀ kv ∈ rs, ∃ i, kv.2 = .int i) {k : Key} {d : D} (e : getK rs k = some d) : ∃ i, d = .int i := by
  unfold getK at e
  cases hf : rs.find? fun kv => decide (kv.1 = k) with
  | none => rw [hf] at e; cases e
  | some kv =>
    rw [hf] at e
    obtain ⟨i, hi⟩ := h kv (List.mem_of_find?_eq_some hf)
    exact ⟨i, by rw [← Option.some.inj e]; exact hi⟩
theorem setK_ints {rs : List (Key × D)} (h : ∀ kv ∈ rs, ∃ i, kv.2 = .int i) (k : Key) (j : Int) : ∀ kv ∈ setK rs k (.int j), ∃ i, kv.2 = .int i := by
  intro kv hk
  unfold setK at hk
  split at hk
  · obtain ⟨q, hq, rfl⟩ := List.mem_map.mp hk
    by_cases hc : q.1 = k
    · rw [if_pos hc]; exact ⟨j, rfl⟩
    · rw [if_neg hc]; exact h q hq
  · rcases List.mem_append.mp hk with hk | hk
    · exact h kv hk
    · rw [List.mem_singleton.mp hk]; exact ⟨j, rfl⟩
theorem lowDs_vals {n : Nat} {rs : List (Key × D)} (h : ∀ kv ∈ rs, ∃ i, kv.2 = .int i) : lowDs n (rs.map (·.2)) = true := by
  refine lowDs_all fun d hd => ?_
  obtain ⟨kv, hk, rfl⟩ := List.mem_map.mp hd
  obtain ⟨i, hi⟩ := h kv hk
  rw [hi]; rfl
theorem get_count {c : Int} {r : Nat} : getK (townK c r) (.inr "count") = some (.int c) := by
  unfold getK townK
  rw [List.find?_cons]
  rw [decide_eq_true rfl]
  rfl
theorem count_rests : ¬ ((.inr "count" : Key) = .inr "rests") := by decide
theorem get_rests {c : Int} {r : Nat} : getK (townK c r) (.inr "rests") = some (.ref r) := by
  unfold getK townK
  rw [List.find?_cons, decide_eq_false count_rests, List.find?_cons, decide_eq_true rfl]
  rfl
theorem set_count {c e : Int} {r : Nat} : setK (townK c r) (.inr "count") (.int e) = townK e r := by
  unfold setK townK
  rw [List.any_cons, decide_eq_true rfl, Bool.true_or, if_pos rfl, List.map_cons, List.map_cons, if_pos rfl, if_neg (fun z => count_rests z.symm)]
  rfl
theorem atI_mod {ns : List Int} {a : Int} (h : ns ≠ []) : ∃ x, atI ns (a % (ns.length : Nat)) = some x := by
  have hl : 0 < ns.length := List.length_pos_iff.mpr h
  have h1 : 0 ≤ a % (ns.length : Int) := Int.emod_nonneg _ (by omega)
  have h2 : a % (ns.length : Int) < ns.length := Int.emod_lt_of_pos _ (by omega)
  obtain ⟨k, hk⟩ : ∃ k : Nat, a % (ns.length : Int) = k := ⟨(a % (ns.length : Int)).toNat, by omega⟩
  rw [hk, atI_nat (by omega)]
  exact ⟨ns[k]'(by omega), by simp⟩
theorem draw_ok {S : Sto} {t r c : Nat} {ns : List Int} {many : Int} (h : Town S t r c) (hc : c ≤ 1000000) (h0 : 0 < many) (h1 : many < 1000000) :
    ∃ v S', m__law_draw [.rl ns, .ref t, .int many] S = .ok (.int v) S' ∧ 0 ≤ v ∧ v < many ∧ Town S' t r (c + 1) ∧ S'.length = S.length ∧ ∀ i, i ≠ t → i ≠ r → S'[i]? = S[i]? := by
  obtain ⟨rs, hr, hrs, hrl⟩ := h.ex
  have ht := h.tw
  have htl := (List.getElem?_eq_some_iff.mp ht).1
  have hrl' := (List.getElem?_eq_some_iff.mp hr).1
  have hz : (1000001 : Nat) < sizeLine := by decide
  have s1 : sAsg (m2 opAdd (m2 opIx (mV 1) (mC (.str "count"))) (mC (.int 1))) (gS fSet (mV 1) (mC (.str "count"))) [some (.rl ns), some (.ref t), some (.int many), none, none, none] S = .ok (.nx [some (.rl ns), some (.ref t), some (.int many), none, none, none]) (S.set t (.dk (townK ((c : Int) + 1) r))) := by
    refine asg_ok (d := .int ((c : Int) + 1)) (S1 := S) (m2_ok (m2_ok rfl rfl (ix_dk ht rfl get_count)) rfl rfl) (gS_ok rfl rfl ?_)
    rw [set_dk ht rfl (by show 2 < sizeLine; omega), set_count]
  have ht2 : (S.set t (.dk (townK ((c : Int) + 1) r)))[t]? = some (.dk (townK ((c : Int) + 1) r)) := by simp [htl]
  have hr2 : (S.set t (.dk (townK ((c : Int) + 1) r)))[r]? = some (.dk rs) := by rw [List.getElem?_set_ne h.ne]; exact hr
  have low2 : Low (S.set t (.dk (townK ((c : Int) + 1) r))) := h.low.set (by
    show (true && (decide (r < S.length) && true)) = true
    rw [decide_eq_true hrl']; rfl)
  have len2 : (S.set t (.dk (townK ((c : Int) + 1) r))).length = S.length := List.length_set
  have fr2 : ∀ i, i ≠ t → i ≠ r → (S.set t (.dk (townK ((c : Int) + 1) r)))[i]? = S[i]? := fun i hi _ => List.getElem?_set_ne (Ne.symm hi)
  generalize S.set t (.dk (townK ((c : Int) + 1) r)) = S2 at s1 ht2 hr2 low2 len2 fr2
  -- where in the script
  obtain ⟨a, ha, hget⟩ : ∃ a : Int, mIfE (tV (mV 0)) (m2 opMod (m2 opIx (mV 1) (mC (.str "count"))) (mN fLen (aCons (mV 0) (aNil)))) (mC (.int 0)) [some (.rl ns), some (.ref t), some (.int many), none, none, none] S2 = .ok (.int a) S2 ∧ ∃ x : Int, mIfE (tV (mV 0)) (m2 opIx (mV 0) (mV 3)) (mC (.int 0)) [some (.rl ns), some (.ref t), some (.int many), some (.int a), none, none] S2 = .ok (.int x) S2 := by
    have t1 : ∀ e4 : Option D, tV (mV 0) [some (.rl ns), some (.ref t), some (.int many), e4, none, none] S2 = .ok (!ns.isEmpty) S2 := fun _ => rfl
    by_cases hn : ns = []
    · subst hn
      exact ⟨0, by unfold mIfE; rw [t1]; rfl, 0, by unfold mIfE; rw [t1]; rfl⟩
    · have hne : (!ns.isEmpty) = true := by simpa using hn
      obtain ⟨x, hx⟩ := atI_mod (a := (c : Int) + 1) hn
      have hl : 0 < ns.length := List.length_pos_iff.mpr hn
      refine ⟨((c : Int) + 1) % (ns.length : Nat), ?_, x, ?_⟩
      · unfold mIfE
        rw [t1, bind_ok, if_pos hne]
        refine m2_ok (m2_ok rfl rfl (ix_dk ht2 rfl get_count)) (S2 := S2) (y := .int (ns.length : Nat)) rfl ?_
        rw [mod_int, if_pos (by omega)]
      · unfold mIfE
        rw [t1, bind_ok, if_pos hne]
        refine m2_ok (S2 := S2) rfl rfl ?_
        rw [ix_rl, hx]
  obtain ⟨x, hx⟩ := hget
  obtain ⟨rest, hrest⟩ : ∃ rest : Int, mGet2 (m2 opIx (mV 1) (mC (.str "rests"))) (mV 3) (mIfE (tV (mV 0)) (m2 opIx (mV 0) (mV 3)) (mC (.int 0))) [some (.rl ns), some (.ref t), some (.int many), some (.int a), none, none] S2 = .ok (.int rest) S2 := by
    have g1 : m2 opIx (mV 1) (mC (.str "rests")) [some (.rl ns), some (.ref t), some (.int many), some (.int a), none, none] S2 = .ok (.ref r) S2 := m2_ok rfl rfl (ix_dk ht2 rfl get_rests)
    have g2 : isDk S2 (.ref r) = true := by unfold isDk; simp only [hr2]
    have g3 : mV 3 [some (.rl ns), some (.ref t), some (.int many), some (.int a), none, none] S2 = .ok (.int a) S2 := rfl
    cases hg : getK rs (.inl a) with
    | none =>
      refine ⟨x, ?_⟩
      unfold mGet2
      rw [g1, bind_ok, if_pos g2, g3, bind_ok, hx, bind_ok]
      unfold fGet2
      simp only [hr2, key_int, hg, Option.getD_none]
    | some d =>
      obtain ⟨i, rfl⟩ := getK_int hrs hg
      refine ⟨i, ?_⟩
      unfold mGet2
      rw [g1, bind_ok, if_pos g2, g3, bind_ok, hx, bind_ok]
      unfold fGet2
      simp only [hr2, key_int, hg, Option.getD_some]
  have tge : tB (m2 opGe (mV 4) (m2 opPow (mC (.int 10)) (mC (.int 18)))) [some (.rl ns), some (.ref t), some (.int many), some (.int a), some (.int rest), none] S2 = .ok (decide ((10 : Int) ^ (18 : Int).toNat ≤ rest)) S2 := by
    refine tB_ok (m2_ok (y := .int ((10 : Int) ^ (18 : Int).toNat)) (S2 := S2) rfl (m2_ok rfl rfl ?_) rfl)
    rw [pow_int, if_pos (by decide)]
  unfold m__law_draw b__law_draw
  have eS : startE 6 [.rl ns, .ref t, .int many] = [some (.rl ns), some (.ref t), some (.int many), none, none, none] := rfl
  by_cases hb : (10 : Int) ^ (18 : Int).toNat ≤ rest
  · -- a rest is kept
    refine ⟨rest % many, S2.set r (.dk (setK rs (.inl a) (.int (rest / many)))), def_rt (S1 := S2.set r (.dk (setK rs (.inl a) (.int (rest / many))))) ?_ (gc_same (by rw [List.length_set]; exact len2)), Int.emod_nonneg _ (by omega), Int.emod_lt_of_pos _ h0, ?_, by rw [List.length_set]; exact len2, fun i hi hj => by rw [List.getElem?_set_ne (Ne.symm hj)]; exact fr2 i hi hj⟩
    · rw [eS]
      refine seq_ok s1 (seq_ok (asg_ok ha rfl) (seq_ok (asg_ok hrest rfl) (seq_rt (if_yes (S1 := S2) (by rw [← decide_eq_true hb]; exact tge) (seq_ok (S1 := S2.set r (.dk (setK rs (.inl a) (.int (rest / many))))) (asg_ok (d := .int (rest / many)) (S1 := S2) ?_ (gS_ok (S1 := S2) (S2 := S2) (m2_ok rfl rfl (ix_dk ht2 rfl get_rests)) rfl ?_)) (ret_ok ?_))))))
      · refine m2_ok rfl rfl ?_
        rw [fdiv_int, if_pos ⟨h0, by omega⟩]
      · rw [set_dk hr2 rfl (by omega)]
      · refine m2_ok rfl rfl ?_
        rw [mod_int, if_pos h0]
    · refine ⟨h.ne, low2.set (lowDs_vals (setK_ints hrs _ _)), by rw [List.getElem?_set_ne (Ne.symm h.ne)]; exact ht2, setK rs (.inl a) (.int (rest / many)), List.getElem?_set_self (by omega), setK_ints hrs _ _, ?_⟩
      have := setK_len rs (.inl a) (.int (rest / many))
      omega
  · have b1 : ∀ y m : Int, 0 < m → 0 ≤ y % m ∧ y % m < m := fun y m hm => ⟨Int.emod_nonneg _ (by omega), Int.emod_lt_of_pos _ hm⟩
    let n1 : Int := (rest + 104729 * ((c : Int) + 1)) % 4294967291
    let n2 : Int := n1 ^ (5 : Int).toNat % 4294967279
    have hn1 := b1 (rest + 104729 * ((c : Int) + 1)) 4294967291 (by decide)
    have hn2 := b1 (n1 ^ (5 : Int).toNat) 4294967279 (by decide)
    refine ⟨((n2 / 64 * 69621 + n2) % 4294967231 / 8) % many, S2, def_rt (S1 := S2) ?_ (gc_same len2), Int.emod_nonneg _ (by omega), Int.emod_lt_of_pos _ h0, ⟨h.ne, low2, ht2, rs, hr2, hrs, by omega⟩, len2, fr2⟩
    rw [eS]
    refine seq_ok s1 (seq_ok (asg_ok ha rfl) (seq_ok (asg_ok hrest rfl) (seq_ok (if_no (S1 := S2) (by rw [← decide_eq_false hb]; exact tge) rfl) (seq_ok (asg_ok (d := .int n1) (S1 := S2) ?_ rfl) (seq_ok (asg_ok (d := .int n2) (S1 := S2) ?_ rfl) (ret_ok ?_))))))
    · refine m2_ok (x := .int (rest + 104729 * ((c : Int) + 1))) (S1 := S2) (m2_ok (y := .int (104729 * ((c : Int) + 1))) (S2 := S2) rfl (m2_ok rfl (m2_ok rfl rfl (ix_dk ht2 rfl get_count)) ?_) rfl) rfl ?_
      · rw [mul_int, if_pos (Or.inl (by decide))]
      · rw [mod_int, if_pos (by decide)]
    · refine m2_ok (x := .int (n1 ^ (5 : Int).toNat)) (S1 := S2) (m2_ok rfl rfl ?_) rfl ?_
      · rw [pow_int, if_pos ⟨by decide, by decide, by
          have : n1 = (rest + 104729 * ((c : Int) + 1)) % 4294967291 := rfl
          omega⟩]
      · rw [mod_int, if_pos (by decide)]
    · refine m2_ok (x := .int ((n2 / 64 * 69621 + n2) % 4294967231 / 8)) (S1 := S2) (m2_ok (x := .int ((n2 / 64 * 69621 + n2) % 4294967231)) (S1 := S2) (m2_ok (x := .int (n2 / 64 * 69621 + n2)) (S1 := S2) (m2_ok (x := .int (n2 / 64 * 69621)) (S1 := S2) (m2_ok (x := .int (n2 / 64)) (S1 := S2) (m2_ok rfl rfl ?_) rfl ?_) rfl rfl) rfl ?_) rfl ?_) rfl ?_
      · rw [fdiv_int, if_pos (by decide)]
      · rw [mul_int, if_pos (Or.inr (by decide))]
      · rw [mod_int, if_pos (by decide)]
      · rw [fdiv_int, if_pos (by decide)]
      · rw [mod_int, if_pos h0]
end K33
end M

namespace M
namespace K33
open PySem L2
/-! ### the walk's lines and fetches -/
def lsM (st : StM) : List Int := st.1.map (·.1)
theorem filter_lines {rows : List Rw} {g : Int} : (rows.filter fun r => r.1 != g).map (·.1) = (rows.map (·.1)).filter fun x => x != g := by
  rw [List.filter_map]; rfl
theorem some_lines {st : StM} {x : Int} : (lookR st.1 x).isSome = true ↔ x ∈ lsM st := by
  cases h : lookR st.1 x with
  | none =>
    have := look_none.mp h
    constructor
    · intro z; cases z
    · intro z; exact absurd z this
  | some r =>
    obtain ⟨h1, h2⟩ := look_some h
    exact ⟨fun _ => List.mem_map.mpr ⟨r, h1, h2⟩, fun _ => rfl⟩
theorem evict_lines {tr : Tr} {room : Nat} {rule : Str} {a p : Nat} {rows : List Rw} : (evict tr room rule a rows p).1.map (·.1) = if rows.length = room then (rows.map (·.1)).filter (fun x => x != goesR tr a rows rule) else rows.map (·.1) := by
  unfold evict
  split
  · exact filter_lines
  · rfl
theorem come_lines {tr : Tr} {room : Nat} {rule : Str} {a : Nat} {x : Int} {st : StM} : lsM (comeM tr room rule a x st) = if x ∈ lsM st then lsM st else (if st.1.length = room then (lsM st).filter (fun y => y != goesR tr a st.1 rule) else lsM st) ++ [x] := by
  unfold comeM
  by_cases h : x ∈ lsM st
  · rw [if_pos (some_lines.mpr h), if_pos h]
  · rw [if_neg fun z => h (some_lines.mp z), if_neg h]
    show (setR _ (x, a, a, false)).map (·.1) = _
    have hn : x ∉ (evict tr room rule a st.1 st.2.2).1.map (·.1) := by
      rw [evict_lines]
      split
      · exact fun z => h (List.mem_filter.mp z).1
      · exact h
    rw [setR_lines, if_neg hn, evict_lines]
    rfl
theorem come_f {tr : Tr} {room : Nat} {rule : Str} {a : Nat} {x : Int} {st : StM} : (comeM tr room rule a x st).2.1 = st.2.1 + if x ∈ lsM st then 0 else 1 := by
  unfold comeM
  by_cases h : x ∈ lsM st
  · rw [if_pos (some_lines.mpr h), if_pos h]; rfl
  · rw [if_neg fun z => h (some_lines.mp z), if_neg h]
theorem come_in {tr : Tr} {room : Nat} {rule : Str} {a : Nat} {x : Int} {st : StM} : x ∈ lsM (comeM tr room rule a x st) := by
  rw [come_lines]
  split
  · assumption
  · simp
theorem touch_lines {a : Nat} {x : Int × Bool} {st : StM} (h : x.1 ∈ lsM st) : lsM (touchM a x st) = lsM st := by
  show (setR st.1 _).map (·.1) = _
  rw [setR_lines]
  exact if_pos h
theorem run_succ {tr : Tr} {room : Nat} {rule : Str} {i : Nat} {y : Int × Bool} (hy : tr[i]? = some y) : runN tr room rule (i + 1) = touchM i y (comeM tr room rule i y.1 (runN tr room rule i)) := by
  rw [runN]; simp only [hy]
theorem run_lines {tr : Tr} {room : Nat} {rule : Str} {i : Nat} {y : Int × Bool} (hy : tr[i]? = some y) : lsM (runN tr room rule (i + 1)) = lsM (comeM tr room rule i y.1 (runN tr room rule i)) := by
  rw [run_succ hy, touch_lines come_in]
theorem run_f {tr : Tr} {room : Nat} {rule : Str} {i : Nat} {y : Int × Bool} (hy : tr[i]? = some y) : (runN tr room rule (i + 1)).2.1 = (runN tr room rule i).2.1 + if y.1 ∈ lsM (runN tr room rule i) then 0 else 1 := by
  rw [run_succ hy]
  exact come_f
/-- lines are one each, at most room of them, at most one fetch each -/
theorem run_inv {tr : Tr} {room : Nat} {rule : Str} (hr : 1 ≤ room) : ∀ i, Lines (runN tr room rule i).1 ∧ (runN tr room rule i).1.length ≤ room ∧ (runN tr room rule i).1.length ≤ (runN tr room rule i).2.1
  | 0 => ⟨List.nodup_nil, Nat.zero_le _, Nat.zero_le _⟩
  | i + 1 => by
    obtain ⟨h1, h2, h3⟩ := run_inv (tr := tr) (rule := rule) hr i
    cases hy : tr[i]? with
    | none =>
      have : runN tr room rule (i + 1) = runN tr room rule i := by rw [runN]; simp only [hy]
      rw [this]; exact ⟨h1, h2, h3⟩
    | some y =>
      have hl : (runN tr room rule (i + 1)).1.length = (lsM (comeM tr room rule i y.1 (runN tr room rule i))).length := by
        rw [← run_lines hy]; simp [lsM]
      have hlen : (lsM (runN tr room rule i)).length = (runN tr room rule i).1.length := by simp [lsM]
      refine ⟨by rw [run_succ hy]; exact h1.come.set _, ?_, ?_⟩
      · rw [hl, come_lines]
        split
        · omega
        · rename_i hn
          split
          · rename_i hq
            have hne : (runN tr room rule i).1 ≠ [] := by intro z; rw [z] at hq; simp at hq; omega
            have := length_drop1 (A := lsM (runN tr room rule i)) h1 (goesR_mem (tr := tr) (a0 := i) (rule := rule) hne)
            rw [List.length_append]
            simp only [List.length_singleton]
            omega
          · rw [List.length_append]
            simp only [List.length_singleton]
            omega
      · rw [hl, run_f hy, come_lines]
        split
        · omega
        · rw [List.length_append]
          split
          · have := List.length_filter_le (fun z => z != goesR tr i (runN tr room rule i).1 rule) (lsM (runN tr room rule i))
            simp only [List.length_singleton]
            omega
          · simp only [List.length_singleton]
            omega
theorem run_mono {tr : Tr} {room : Nat} {rule : Str} {i : Nat} : ∀ {j : Nat}, (runN tr room rule i).2.1 ≤ (runN tr room rule (i + j)).2.1
  | 0 => Nat.le_refl _
  | j + 1 => by
    refine Nat.le_trans (run_mono (j := j)) ?_
    show _ ≤ (runN tr room rule (i + j + 1)).2.1
    cases hy : tr[i + j]? with
    | none =>
      have : runN tr room rule (i + j + 1) = runN tr room rule (i + j) := by rw [runN]; simp only [hy]
      rw [this]; exact Nat.le_refl _
    | some y => rw [run_f hy]; exact Nat.le_add_right ..
/-! ### the next use -/
def nu (tr : Tr) (t : Nat) (x : Int) : Nat := t + (tr.drop t).findIdx fun y => y.1 == x
theorem drop_cons {tr : Tr} {t : Nat} {y : Int × Bool} (hy : tr[t]? = some y) : tr.drop t = y :: tr.drop (t + 1) := by
  obtain ⟨h1, h2⟩ := List.getElem?_eq_some_iff.mp hy
  rw [List.drop_eq_getElem_cons h1, h2]
theorem nu_hit {tr : Tr} {t : Nat} {y : Int × Bool} (hy : tr[t]? = some y) : nu tr t y.1 = t := by
  unfold nu
  rw [drop_cons hy, List.findIdx_cons]
  simp
theorem nu_skip {tr : Tr} {t : Nat} {y : Int × Bool} {x : Int} (hy : tr[t]? = some y) (hx : x ≠ y.1) : nu tr t x = nu tr (t + 1) x := by
  unfold nu
  have : (y.1 == x) = false := by rw [beq_eq_false_iff_ne]; exact Ne.symm hx
  rw [drop_cons hy, List.findIdx_cons, this]
  simp only [cond_false]
  omega
theorem foldMax_ge : ∀ {ns : List Int} {y : Int}, y ∈ ns → y ≤ foldMax ns
  | [], y, h => by cases h
  | n :: ns, y, h => by
    have key : ∀ (ns : List Int) (n : Int), n ≤ ns.foldl max n ∧ ∀ y ∈ ns, y ≤ ns.foldl max n := by
      intro ns
      induction ns with
      | nil => intro n; exact ⟨Int.le_refl _, fun _ z => by cases z⟩
      | cons m ns ih =>
        intro n
        rw [List.foldl_cons]
        obtain ⟨h1, h2⟩ := ih (max n m)
        refine ⟨by omega, fun y hy => ?_⟩
        rcases List.mem_cons.mp hy with rfl | hy
        · omega
        · exact h2 y hy
    rcases List.mem_cons.mp h with rfl | h
    · exact (key ns _).1
    · exact (key ns n).2 y h
/-- by "far" the line goes that is used last -/
theorem far_best {tr : Tr} {a : Nat} {rows : List Rw} (hne : rows ≠ []) : ∀ y ∈ rows.map (·.1), nextUse tr a y ≤ nextUse tr a (goesR tr a rows "far") := by
  have hx : rows.map (fun r => (nextUse tr a r.1 : Int)) ≠ [] := by simpa using hne
  have hne2 : ((rows.filter fun r => decide ((nextUse tr a r.1 : Int) = foldMax (rows.map fun r => (nextUse tr a r.1 : Int)))).map (·.1)) ≠ [] := by
    intro z
    obtain ⟨r, hr, e⟩ := List.mem_map.mp (foldMax_mem hx)
    have : r ∈ rows.filter fun r => decide ((nextUse tr a r.1 : Int) = foldMax (rows.map fun r => (nextUse tr a r.1 : Int))) := List.mem_filter.mpr ⟨hr, decide_eq_true e⟩
    rw [List.map_eq_nil_iff.mp z] at this
    cases this
  have hg : goesR tr a rows "far" = goFar tr a rows := by unfold goesR; rw [if_pos rfl]
  have hm := foldMin_mem hne2
  obtain ⟨r, hr, e⟩ := List.mem_map.mp hm
  have e2 := of_decide_eq_true (List.mem_filter.mp hr).2
  intro y hy
  obtain ⟨q, hq, rfl⟩ := List.mem_map.mp hy
  have h1 := foldMax_ge (List.mem_map.mpr ⟨q, hq, rfl⟩ : (nextUse tr a q.1 : Int) ∈ rows.map fun r => (nextUse tr a r.1 : Int))
  rw [hg]
  unfold goFar
  rw [← e]
  omega
/-! ### another way to move: caches c, costs f -/
structure Pol (room : Nat) (tr : Tr) (c : Nat → List Int) (f : Nat → Nat) : Prop where
  nd : ∀ t, t ≤ tr.length → (c t).Nodup
  sub : ∀ t y, tr[t]? = some y → ∀ x ∈ c (t + 1), x = y.1 ∨ x ∈ c t
  oth : ∀ t y, tr[t]? = some y → ((c (t + 1)).filter fun x => x != y.1).length + 1 ≤ room
  cost : ∀ t y, tr[t]? = some y → f t + (if y.1 ∈ c t then 0 else 1) ≤ f (t + 1)
  st : (c 0).length ≤ f 0
theorem belady {room : Nat} {tr : Tr} {c : Nat → List Int} {f : Nat → Nat} (hr : 1 ≤ room) (P : Pol room tr c f) : ∀ t, t ≤ tr.length → ∀ k, (runN tr room "far" t).2.1 + cn (nu tr t) k (c t) ≤ f t + cn (nu tr t) k (lsM (runN tr room "far" t))
  | 0, _, k => by
    have h1 : cn (nu tr 0) k (c 0) ≤ (c 0).length := List.length_filter_le ..
    have := P.st
    show 0 + _ ≤ f 0 + 0
    omega
  | t + 1, ht, k => by
    have hlt : t < tr.length := by omega
    obtain ⟨y, hy⟩ : ∃ y, tr[t]? = some y := ⟨tr[t], by simp [hlt]⟩
    obtain ⟨i1, i2, i3⟩ := run_inv (tr := tr) (rule := "far") hr t
    have ih := belady hr P t (by omega)
    have key := step_inv (nb := nu tr t) (na := nu tr (t + 1)) (t := t) (r := y.1) (nu_hit hy) (fun x hx => nu_skip hy hx) (fun x => Nat.le_add_right ..) (room := room) (f := (runN tr room "far" t).2.1) (f' := f t) (f1' := f (t + 1)) (C := lsM (runN tr room "far" t)) (C' := c t) (C1 := lsM (runN tr room "far" (t + 1))) (C1' := c (t + 1)) i1 (P.nd t (by omega)) (P.nd (t + 1) ht) (P.sub t y hy) (P.oth t y hy) (P.cost t y hy) ih (by
      rw [run_lines hy, come_lines]
      by_cases h : y.1 ∈ lsM (runN tr room "far" t)
      · exact .inl ⟨h, if_pos h⟩
      · rw [if_neg h]
        by_cases hq : (runN tr room "far" t).1.length = room
        · rw [if_pos hq]
          have hne : (runN tr room "far" t).1 ≠ [] := by intro z; rw [z] at hq; simp at hq; omega
          refine .inr (.inr ⟨h, by simpa [lsM] using hq, goesR tr t (runN tr room "far" t).1 "far", goesR_mem hne, fun x hx => far_best hne x hx, rfl⟩)
        · rw [if_neg hq]
          exact .inr (.inl ⟨h, rfl⟩)) k
    rw [run_f hy]
    exact key
theorem belady_le {room : Nat} {tr : Tr} {c : Nat → List Int} {f : Nat → Nat} (hr : 1 ≤ room) (P : Pol room tr c f) : (movesR tr room "far").1 ≤ f tr.length := by
  have := belady hr P tr.length (Nat.le_refl _) 0
  have z : ∀ n A, cn n 0 A = 0 := fun n A => by unfold cn; simp
  rw [z, z] at this
  exact this
/-- a part of a walk by any rule, in no more room -/
theorem run_pol {room room' : Nat} {tr tr' : Tr} {rule : Str} {o : Nat} (hr : 1 ≤ room') (hle : room' ≤ room) (h : ∀ t y, tr[t]? = some y → tr'[o + t]? = some y) : Pol room tr (fun t => lsM (runN tr' room' rule (o + t))) (fun t => (runN tr' room' rule (o + t)).2.1) where
  nd := fun t _ => (run_inv hr _).1
  sub := fun t y hy x hx => by
    have hx' : x ∈ lsM (runN tr' room' rule (o + t + 1)) := hx
    rw [run_lines (h t y hy), come_lines] at hx'
    split at hx'
    · exact .inr hx'
    · rcases List.mem_append.mp hx' with z | z
      · refine .inr ?_
        split at z
        · exact (List.mem_filter.mp z).1
        · exact z
      · exact .inl (List.mem_singleton.mp z)
  oth := fun t y hy => by
    obtain ⟨h1, h2, _⟩ := run_inv (tr := tr') (rule := rule) hr (o + t + 1)
    have hin : y.1 ∈ lsM (runN tr' room' rule (o + t + 1)) := by rw [run_lines (h t y hy)]; exact come_in
    have := length_drop1 (A := lsM (runN tr' room' rule (o + t + 1))) h1 hin
    have h3 : (lsM (runN tr' room' rule (o + t + 1))).length = (runN tr' room' rule (o + t + 1)).1.length := by simp [lsM]
    show ((lsM (runN tr' room' rule (o + t + 1))).filter _).length + 1 ≤ room
    omega
  cost := fun t y hy => by
    show _ ≤ (runN tr' room' rule (o + t + 1)).2.1
    rw [run_f (h t y hy)]
    exact Nat.le_refl _
  st := by
    obtain ⟨_, _, h3⟩ := run_inv (tr := tr') (rule := rule) hr (o + 0)
    simpa [lsM] using h3
end K33
end M

namespace M
namespace K33
open PySem L2
/-! ### drawn traces: the draws' table stands behind the tables B -/
structure Rdy (B : Sto) (S : Sto) (c : Nat) : Prop where
  tn : Town S (B.length + 1) B.length c
  tb : ∀ i, i < B.length → S[i]? = B[i]?
theorem Rdy.snoc {B : Sto} {S : Sto} {c : Nat} {o : O} (h : Rdy B S c) (ho : lowO (S.length + 1) o = true) : Rdy B (S ++ [o]) c := ⟨h.tn.snoc ho, fun i hi => by
  have h1 := h.tb i hi
  rw [List.getElem?_eq_getElem hi] at h1 ⊢
  exact get_old h1⟩
theorem Rdy.low {B : Sto} {S : Sto} {c : Nat} (h : Rdy B S c) : Low S := h.tn.low
theorem draw_at {B : Sto} {S : Sto} {c : Nat} {ns : List Int} {many : Nat} (h : Rdy B S c) (hc : c ≤ 1000000) (h0 : 0 < many) (h1 : many < 1000000) :
    ∃ (v : Nat) (S' : Sto), m__law_draw [.rl ns, .ref (B.length + 1), .int (many : Nat)] S = .ok (.int (v : Nat)) S' ∧ v < many ∧ Rdy B S' (c + 1) ∧ S'.length = S.length ∧ ∀ i, B.length + 2 ≤ i → S'[i]? = S[i]? := by
  obtain ⟨v, S', e, h2, h3, h4, h5, h6⟩ := draw_ok (ns := ns) h.tn hc (many := (many : Nat)) (by omega) (by omega)
  obtain ⟨k, rfl⟩ : ∃ k : Nat, v = k := ⟨v.toNat, by omega⟩
  exact ⟨k, S', e, by omega, ⟨h4, fun i hi => by rw [h6 i (by omega) (by omega)]; exact h.tb i hi⟩, h5, fun i hi => h6 i (by omega) (by omega)⟩
theorem begun_ok {B : Sto} (hB : ∀ m, lowS m B = true) : ∃ S, m__law_begun [] B = .ok (.ref (B.length + 1)) S ∧ Rdy B S 0 ∧ S.length = B.length + 2 := by
  have g0 : (B ++ [O.dk [], .dk (townK 0 B.length)])[B.length]? = some (.dk []) := by simp
  have g1 : (B ++ [O.dk [], .dk (townK 0 B.length)])[B.length + 1]? = some (.dk (townK 0 B.length)) := by simp
  refine ⟨B ++ [.dk [], .dk (townK 0 B.length)], ?_, ⟨⟨by omega, ?_, g1, [], g0, (fun _ z => by cases z), Nat.le_refl _⟩, fun i hi => ?_⟩, by simp⟩
  · unfold m__law_begun b__law_begun
    refine def_rt (S1 := B ++ [.dk [], .dk (townK 0 B.length)]) (d := .ref (B.length + 1)) (ret_ok ?_) ?_
    · have e : dPairs [(mC (.str "count"), mC (.int 0)), (mC (.str "rests"), mDnew)] (startE 0 []) B = .ok [(.inr "count", .int 0), (.inr "rests", .ref B.length)] (B ++ [.dk []]) := rfl
      unfold mDisp
      rw [e, bind_ok, if_pos (by simp)]
      have : mergeD [] [((.inr "count" : Key), D.int 0), (.inr "rests", .ref B.length)] = townK 0 B.length := by
        show setK (setK [] (.inr "count") (.int 0)) (.inr "rests") (.ref B.length) = _
        have e1 : setK [] (.inr "count") (.int 0) = [((.inr "count" : Key), D.int 0)] := rfl
        rw [e1]
        unfold setK
        rw [if_neg]
        · rfl
        · rw [List.any_cons, decide_eq_false count_rests]; simp
      rw [this, List.length_append, List.append_assoc]
      rfl
    · unfold gc
      rw [if_neg]
      simp [lowD]
      omega
  · unfold Low
    refine List.all_eq_true.mpr fun o ho => ?_
    rcases List.mem_append.mp ho with ho | ho
    · exact List.all_eq_true.mp (hB _) o ho
    · have : o = .dk [] ∨ o = .dk (townK 0 B.length) := by simpa using ho
      rcases this with rfl | rfl
      · rfl
      · have : (B ++ [O.dk [], .dk (townK 0 B.length)]).length = B.length + 2 := by simp
        rw [this]
        show lowDs _ [.int 0, .ref B.length] = true
        simp [lowDs, lowD]
  · rw [List.getElem?_append_left hi]
theorem r1_at {t : En → Sto → Rs (List D)} {E : En} {S S1 : Sto} {n : Nat} (h : t E S = .ok [.int (n : Int)] S1) (hn : n ≤ 1000000) : (t E S).bind aiR1 = .ok ⟨rangeD 0 (n : Int), fun _ => True, none⟩ S1 := by
  rw [h, bind_ok]; exact r1_ok hn
theorem a_trace_ok {B : Sto} {S : Sto} {c : Nat} {ns : List Int} {many lines : Nat} (h : Rdy B S c) (hc : c ≤ 10000) (hm : many ≤ 1000) (hl0 : 0 < lines) (hl1 : lines ≤ 1000) :
    ∃ (tr : Tr) (S' : Sto) (c' : Nat), m__law_a_trace [.rl ns, .ref (B.length + 1), .int (many : Nat), .int (lines : Nat)] S = .ok (tD tr) S' ∧ tr.length ≤ many ∧ (∀ x ∈ tr, 0 ≤ x.1 ∧ x.1 < lines) ∧ Rdy B S' c' ∧ c' ≤ c + 1 + 2 * many ∧ S'.length = S.length ∧ ∀ i, B.length + 2 ≤ i → S'[i]? = S[i]? := by
  have hz : (1000000 : Nat) ≤ sizeLine := by decide
  obtain ⟨v, S1, e, hv, hr1, hl1', hf1⟩ := draw_at (ns := ns) (many := many + 1) h (by omega) (by omega) (by omega)
  have e0 : mN (mCl 3 m__law_draw) (aCons (mV 0) (aCons (mV 1) (aCons (m2 opAdd (mV 2) (mC (.int 1))) (aNil)))) [some (.rl ns), some (.ref (B.length + 1)), some (.int (many : Nat)), some (.int (lines : Nat)), none, none] S = .ok (.int (v : Nat)) S1 := by
    refine call_ok (ds := [.rl ns, .ref (B.length + 1), .int ((many + 1 : Nat) : Int)]) (S1 := S) ?_ rfl e
    exact cons_ok rfl (cons_ok rfl (cons_ok (m2_ok (S1 := S) (S2 := S) rfl rfl (by rw [add_int]; rfl)) rfl))
  obtain ⟨ds, S2, e2, tr, rfl, htl, htb, hrd, hlen, hfr⟩ := mComp_ind (mi := fun E S => ((aCons (mV 4) (aNil)) E S).bind aiR1) (vs := [5]) (g := gN 5) (t := tYesM) (m := mTup (aCons (mN (mCl 3 m__law_draw) (aCons (mV 0) (aCons (mV 1) (aCons (mV 3) (aNil))))) (aCons (m2 opEq (mN (mCl 3 m__law_draw) (aCons (mV 0) (aCons (mV 1) (aCons (mC (.int 3)) (aNil))))) (mC (.int 0))) (aNil))))
    (E := [some (.rl ns), some (.ref (B.length + 1)), some (.int (many : Nat)), some (.int (lines : Nat)), some (.int (v : Nat)), none]) (S := S1) (S1 := S1) (items := rangeD 0 (v : Int)) (gd := fun _ => True)
    (fun i acc S' => ∃ tr : Tr, acc = tr.map eD ∧ tr.length = i ∧ (∀ x ∈ tr, 0 ≤ x.1 ∧ x.1 < lines) ∧ (i ≤ 1000 → Rdy B S' (c + 1 + 2 * i)) ∧ S'.length = S.length ∧ ∀ j, B.length + 2 ≤ j → S'[j]? = S[j]?)
    (r1_at (t := aCons (mV 4) aNil) (n := v) rfl (by omega)) ⟨[], rfl, rfl, (fun _ z => by cases z), fun _ => hr1, hl1', hf1⟩ (fun i acc S ⟨tr, e, hx, _⟩ => ⟨trivial, by rw [e, List.length_map, hx]; exact Nat.le_refl _⟩) (by
      rintro i dd acc S3 hi ⟨tr, rfl, htl, htb, hrd, hlen, hfr⟩
      obtain ⟨hi5, rfl⟩ := range_get hi
      obtain ⟨u, S4, e4, hu, hr4, hl4, hf4⟩ := draw_at (ns := ns) (many := lines) (hrd (by omega)) (by omega) hl0 (by omega)
      obtain ⟨w, S5, e5, hw, hr5, hl5, hf5⟩ := draw_at (ns := ns) (many := 3) hr4 (by omega) (by decide) (by decide)
      have hb : mTup (aCons (mN (mCl 3 m__law_draw) (aCons (mV 0) (aCons (mV 1) (aCons (mV 3) (aNil))))) (aCons (m2 opEq (mN (mCl 3 m__law_draw) (aCons (mV 0) (aCons (mV 1) (aCons (mC (.int 3)) (aNil))))) (mC (.int 0))) (aNil))) [some (.rl ns), some (.ref (B.length + 1)), some (.int (many : Nat)), some (.int (lines : Nat)), some (.int (v : Nat)), some (.int (i : Nat))] S3 = .ok (eD ((u : Int), decide ((w : Int) = 0))) S5 :=
        tup_ok (ds := [.int (u : Nat), .bl (decide ((w : Int) = 0))]) (cons_ok (call_ok rfl rfl e4) (cons_ok (m2_ok (call_ok rfl rfl e5) rfl rfl) rfl)) (by simp)
      refine ⟨some (eD ((u : Int), decide ((w : Int) = 0))), S5, body_yes rfl hb, tr ++ [((u : Int), decide ((w : Int) = 0))], by rw [List.map_append]; rfl, by simp [htl], fun x hx => ?_, fun _ => hr5, by rw [hl5, hl4, hlen], fun j hj => by rw [hf5 j hj, hf4 j hj, hfr j hj]⟩
      rcases List.mem_append.mp hx with hx | hx
      · exact htb x hx
      · rw [List.mem_singleton.mp hx]
        exact ⟨by simp, by simpa using hu⟩) (by rw [range_len]; omega)
  rw [range_len] at htl hrd
  refine ⟨tr, S2, c + 1 + 2 * v, ?_, by omega, htb, hrd (by omega), by omega, hlen, hfr⟩
  unfold m__law_a_trace b__law_a_trace
  exact def_rt (d := tD tr) (S1 := S2) (seq_ok (asg_ok e0 rfl) (ret_ok (tl_ok e2 rfl))) (gc_same hlen)
theorem or_no {a b : En → Sto → Rs Bool} {E : En} {S S1 S2 : Sto} (h1 : a E S = .ok false S1) (h2 : b E S1 = .ok false S2) : tOrM a b E S = .ok false S2 := by
  unfold tOrM; rw [h1, bind_ok, if_neg (by simp)]; exact h2
theorem ne_tup2 {S : Sto} {a b c d : Int} : opNe (.tup [.int a, .int b]) (.tup [.int c, .int d]) S = .ok (.bl (!((a == c) && ((b == d) && true)))) S := rfl
theorem ne_self {S : Sto} {a b : Int} : opNe (.tup [.int a, .int b]) (.tup [.int a, .int b]) S = .ok (.bl false) S := by
  rw [ne_tup2]; simp
theorem gc_any {n : Nat} {d : D} {S : Sto} : ∃ S1, gc n d S = .ok d S1 := by
  unfold gc; split
  · exact ⟨_, rfl⟩
  · exact ⟨_, rfl⟩
theorem draw_asg {B : Sto} {S : Sto} {c : Nat} {ns : List Int} {E : En} {many k : Nat} {i : Nat} (h : Rdy B S c) (hc : c ≤ 1000000) (h0 : 0 < many) (h1 : many < 1000000) (hE : aCons (mV 0) (aCons (mV 1) (aCons (mC (.int (many : Nat))) (aNil))) E S = .ok [.rl ns, .ref (B.length + 1), .int (many : Nat)] S) :
    ∃ (v : Nat) (S' : Sto), sAsg (m2 opAdd (mC (.int (k : Nat))) (mN (mCl 3 m__law_draw) (aCons (mV 0) (aCons (mV 1) (aCons (mC (.int (many : Nat))) (aNil)))))) (gN i) E S = .ok (.nx (E.set i (some (.int ((k + v : Nat) : Int))))) S' ∧ v < many ∧ Rdy B S' (c + 1) := by
  obtain ⟨v, S', e, hv, hr, _, _⟩ := draw_at (ns := ns) h hc h0 h1
  refine ⟨v, S', asg_ok (d := .int ((k + v : Nat) : Int)) (S1 := S') (m2_ok rfl (call_ok hE rfl e) ?_) rfl, hv, hr⟩
  rw [add_int]; rfl
end K33
end M

namespace M
namespace K33
open PySem L2
/-! ### the law's own lists beside the rows -/
theorem setR_mem {rows : List Rw} {r q : Rw} (h : q ∈ setR rows r) : q = r ∨ (q ∈ rows ∧ q.1 ≠ r.1) := by
  unfold setR at h
  split at h
  · obtain ⟨z, hz, rfl⟩ := List.mem_map.mp h
    by_cases e : z.1 = r.1
    · rw [if_pos (by simpa using e)]; exact .inl rfl
    · rw [if_neg (by simpa using e)]; exact .inr ⟨hz, e⟩
  · rename_i hn
    rcases List.mem_append.mp h with h | h
    · exact .inr ⟨h, fun e => hn (List.any_eq_true.mpr ⟨q, h, by simpa using e⟩)⟩
    · exact .inl (List.mem_singleton.mp h)
theorem setR_keep {rows : List Rw} {r q : Rw} (h : q ∈ rows) (hn : q.1 ≠ r.1) : q ∈ setR rows r := by
  unfold setR
  split
  · exact List.mem_map.mpr ⟨q, h, by rw [if_neg (by simpa using hn)]⟩
  · exact List.mem_append_left _ h
theorem setR_self {rows : List Rw} {r : Rw} : r ∈ setR rows r := (look_some setR_look).1
structure Sm (B : Rw → Prop) (rows : List Rw) (came used dirty : List Int) : Prop where
  nd : Lines rows
  cm : came = rows.map (·.1)
  bd : ∀ r ∈ rows, B r
  cp : rows.Pairwise fun r q => r.2.1 < q.2.1
  us : used.Perm came
  up : used.Pairwise fun a b => ∀ r ∈ rows, ∀ q ∈ rows, r.1 = a → q.1 = b → r.2.2.1 < q.2.2.1
  dn : dirty.Nodup
  dm : ∀ x, x ∈ dirty ↔ ∃ r ∈ rows, r.1 = x ∧ r.2.2.2 = true
def B1 (i : Nat) (r : Rw) : Prop := r.2.1 < i ∧ r.2.2.1 < i
def B2 (i : Nat) (x : Int) (r : Rw) : Prop := r.2.1 < i + 1 ∧ (r.1 ≠ x → r.2.2.1 < i)
section
variable {B B' : Rw → Prop} {rows : List Rw} {came used dirty : List Int}
theorem Sm.mono (h : Sm B rows came used dirty) (f : ∀ r, B r → B' r) : Sm B' rows came used dirty := ⟨h.nd, h.cm, fun r hr => f r (h.bd r hr), h.cp, h.us, h.up, h.dn, h.dm⟩
theorem Sm.und (h : Sm B rows came used dirty) : used.Nodup := by
  have := h.nd
  unfold Lines at this
  rw [← h.cm] at this
  exact h.us.nodup_iff.mpr this
theorem Sm.umem (h : Sm B rows came used dirty) {x : Int} : x ∈ used ↔ x ∈ came := h.us.mem_iff
theorem Sm.evic (h : Sm B rows came used dirty) (g : Int) : Sm B (rows.filter fun r => r.1 != g) (came.erase g) (used.erase g) (dirty.filter fun x => x != g) where
  nd := h.nd.filter _
  cm := by
    have : came.Nodup := by rw [h.cm]; exact h.nd
    rw [this.erase_eq_filter, filter_lines, h.cm]
  bd := fun r hr => h.bd r (List.mem_filter.mp hr).1
  cp := h.cp.filter _
  us := h.us.erase g
  up := (h.up.sublist List.erase_sublist).imp fun hq r hr q hq' e1 e2 => hq r (List.mem_filter.mp hr).1 q (List.mem_filter.mp hq').1 e1 e2
  dn := h.dn.filter _
  dm := fun x => by
    rw [List.mem_filter, h.dm]
    constructor
    · rintro ⟨⟨r, hr, rfl, hd⟩, hx⟩
      exact ⟨r, List.mem_filter.mpr ⟨hr, hx⟩, rfl, hd⟩
    · rintro ⟨r, hr, rfl, hd⟩
      obtain ⟨h1, h2⟩ := List.mem_filter.mp hr
      exact ⟨⟨r, h1, rfl, hd⟩, h2⟩
theorem Sm.puts (h : Sm B rows came used dirty) (g : Int) : dirtyN (lookR rows g) = dirty.count g := by
  by_cases hg : g ∈ dirty
  · obtain ⟨r, hr, rfl, hd⟩ := (h.dm g).mp hg
    rw [look_mem h.nd hr, h.dn.count, if_pos hg]
    show (if r.2.2.2 = true then 1 else 0) = 1
    rw [if_pos hd]
  · rw [List.count_eq_zero_of_not_mem hg]
    cases hl : lookR rows g with
    | none => rfl
    | some r =>
      obtain ⟨hr, e⟩ := look_some hl
      show (if r.2.2.2 = true then 1 else 0) = 0
      rw [if_neg fun hd => hg ((h.dm g).mpr ⟨r, hr, e, hd⟩)]
theorem Sm.add {i : Nat} {x : Int} (h : Sm (B1 i) rows came used dirty) (hx : x ∉ came) : Sm (B2 i x) (setR rows (x, i, i, false)) (came ++ [x]) (used ++ [x]) dirty := by
  have hx' : x ∉ rows.map (·.1) := by rw [← h.cm]; exact hx
  have e : setR rows (x, i, i, false) = rows ++ [(x, i, i, false)] := by
    unfold setR
    rw [if_neg]
    intro hz
    obtain ⟨r, hr, e⟩ := List.any_eq_true.mp hz
    exact hx' (List.mem_map.mpr ⟨r, hr, by simpa using e⟩)
  have nd2 := h.nd.set (x, i, i, false)
  rw [e] at nd2 ⊢
  have hmem : ∀ {r : Rw}, r ∈ rows ++ [(x, i, i, false)] → r ∈ rows ∨ r = (x, i, i, false) := fun {r} hr => by
    rcases List.mem_append.mp hr with hr | hr
    · exact .inl hr
    · exact .inr (List.mem_singleton.mp hr)
  have hne : ∀ {r : Rw}, r ∈ rows → r.1 ≠ x := fun {r} hr z => hx' (List.mem_map.mpr ⟨r, hr, z⟩)
  refine ⟨nd2, by rw [List.map_append, h.cm]; rfl, fun r hr => ?_, ?_, h.us.append_right _, ?_, h.dn, fun y => ?_⟩
  · rcases hmem hr with hr | rfl
    · obtain ⟨h1, h2⟩ := h.bd r hr
      exact ⟨by omega, fun _ => h2⟩
    · exact ⟨Nat.lt_succ_self _, fun z => absurd rfl z⟩
  · rw [List.pairwise_append]
    refine ⟨h.cp, List.pairwise_singleton _ _, fun r hr q hq => ?_⟩
    rw [List.mem_singleton.mp hq]
    exact (h.bd r hr).1
  · rw [List.pairwise_append]
    refine ⟨?_, List.pairwise_singleton _ _, fun a ha b hb r hr q hq e1 e2 => ?_⟩
    · refine h.up.imp_of_mem fun {a b} ha hb hq r hr q hq' e1 e2 => ?_
      have ha' : a ≠ x := fun z => hx (by rw [← z]; exact h.umem.mp ha)
      have hb' : b ≠ x := fun z => hx (by rw [← z]; exact h.umem.mp hb)
      rcases hmem hr with hr | rfl
      · rcases hmem hq' with hq' | rfl
        · exact hq r hr q hq' e1 e2
        · exact absurd e2.symm hb'
      · exact absurd e1.symm ha'
    · rw [List.mem_singleton.mp hb] at e2
      have ha' : a ≠ x := fun z => hx (by rw [← z]; exact h.umem.mp ha)
      rcases hmem hr with hr | rfl
      · rcases hmem hq with hq | rfl
        · exact absurd e2 (hne hq)
        · exact (h.bd r hr).2
      · exact absurd e1.symm ha'
  · rw [h.dm]
    constructor
    · rintro ⟨r, hr, z⟩
      exact ⟨r, List.mem_append_left _ hr, z⟩
    · rintro ⟨r, hr, e1, hd⟩
      rcases hmem hr with hr | rfl
      · exact ⟨r, hr, e1, hd⟩
      · cases hd
theorem Sm.touch {i : Nat} {x : Int} {w : Bool} {r0 : Rw} (h : Sm (B2 i x) rows came used dirty) (hl : lookR rows x = some r0) : Sm (B1 (i + 1)) (setR rows (x, r0.2.1, i, r0.2.2.2 || w)) came (used.erase x ++ [x]) (if w = true ∧ x ∉ dirty then dirty ++ [x] else dirty) := by
  obtain ⟨hr0, e0⟩ := look_some hl
  have hxc : x ∈ rows.map (·.1) := List.mem_map.mpr ⟨r0, hr0, e0⟩
  have hxu : x ∈ used := h.umem.mpr (by rw [h.cm]; exact hxc)
  have huniq : ∀ {q : Rw}, q ∈ rows → q.1 = x → q = r0 := fun {q} hq z => by
    have := look_mem h.nd hq
    rw [z, hl] at this
    exact (Option.some.inj this).symm
  have heq : setR rows (x, r0.2.1, i, r0.2.2.2 || w) = rows.map fun q => if q.1 == x then (x, r0.2.1, i, r0.2.2.2 || w) else q := by
    unfold setR
    rw [if_pos (List.any_eq_true.mpr ⟨r0, hr0, by simpa using e0⟩)]
  refine ⟨h.nd.set _, ?_, fun r hr => ?_, ?_, ?_, ?_, ?_, fun y => ?_⟩
  · rw [setR_lines, if_pos hxc, h.cm]
  · rcases setR_mem hr with rfl | ⟨hr, hn⟩
    · exact ⟨(h.bd r0 hr0).1, Nat.lt_succ_self _⟩
    · obtain ⟨h1, h2⟩ := h.bd r hr
      exact ⟨h1, by have := h2 hn; omega⟩
  · rw [heq, List.pairwise_map]
    refine h.cp.imp_of_mem fun {a b} ha hb hab => ?_
    have hf : ∀ {q : Rw}, q ∈ rows → (if q.1 == x then ((x, r0.2.1, i, r0.2.2.2 || w) : Rw) else q).2.1 = q.2.1 := fun {q} hq => by
      by_cases z : q.1 = x
      · rw [if_pos (by simpa using z), huniq hq z]
      · rw [if_neg (by simpa using z)]
    rw [hf ha, hf hb]
    exact hab
  · refine List.Perm.trans ?_ h.us
    have : (used.erase x ++ [x]).Perm (x :: used.erase x) := List.perm_append_singleton _ _
    exact this.trans (List.perm_cons_erase hxu).symm
  · have hne : ∀ {a : Int}, a ∈ used.erase x → a ≠ x := fun {a} ha => ((h.und.mem_erase_iff).mp ha).1
    rw [List.pairwise_append]
    refine ⟨?_, List.pairwise_singleton _ _, fun a ha b hb r hr q hq e1 e2 => ?_⟩
    · refine (h.up.sublist List.erase_sublist).imp_of_mem fun {a b} ha hb hq r hr q hq' e1 e2 => ?_
      rcases setR_mem hr with rfl | ⟨hr, hn⟩
      · exact absurd e1.symm (hne ha)
      · rcases setR_mem hq' with rfl | ⟨hq', hn'⟩
        · exact absurd e2.symm (hne hb)
        · exact hq r hr q hq' e1 e2
    · rw [List.mem_singleton.mp hb] at e2
      rcases setR_mem hr with rfl | ⟨hr, hn⟩
      · exact absurd e1.symm (hne ha)
      · rcases setR_mem hq with rfl | ⟨hq, hn'⟩
        · exact (h.bd r hr).2 hn
        · exact absurd e2 hn'
  · split
    · rename_i hw
      rw [List.nodup_append]
      refine ⟨h.dn, (by simp), fun a ha b hb z => hw.2 ?_⟩
      rw [List.mem_singleton.mp hb] at z
      rw [← z]; exact ha
    · exact h.dn
  · have key : (∃ r ∈ setR rows (x, r0.2.1, i, r0.2.2.2 || w), r.1 = y ∧ r.2.2.2 = true) ↔ (y ∈ dirty ∨ (y = x ∧ w = true)) := by
      constructor
      · rintro ⟨r, hr, rfl, hd⟩
        rcases setR_mem hr with rfl | ⟨hr, hn⟩
        · rcases Bool.or_eq_true_iff.mp hd with hd | hd
          · exact .inl ((h.dm _).mpr ⟨r0, hr0, e0, hd⟩)
          · exact .inr ⟨rfl, hd⟩
        · exact .inl ((h.dm _).mpr ⟨r, hr, rfl, hd⟩)
      · rintro (hy | ⟨rfl, hw⟩)
        · obtain ⟨r, hr, rfl, hd⟩ := (h.dm y).mp hy
          by_cases z : r.1 = x
          · refine ⟨_, setR_self, z.symm, ?_⟩
            have := huniq hr z
            subst this
            show (r.2.2.2 || w) = true
            rw [hd]; rfl
          · exact ⟨r, setR_keep hr z, rfl, hd⟩
        · refine ⟨_, setR_self, rfl, ?_⟩
          show (r0.2.2.2 || w) = true
          rw [hw]; simp
    rw [key]
    split
    · rename_i hw
      rw [List.mem_append, List.mem_singleton]
      constructor
      · rintro (z | z)
        · exact .inl z
        · exact .inr ⟨z, hw.1⟩
      · rintro (z | ⟨z, _⟩)
        · exact .inl z
        · exact .inr z
    · rename_i hw
      constructor
      · exact .inl
      · rintro (z | ⟨rfl, z⟩)
        · exact z
        · exact Classical.byContradiction fun hn => hw ⟨z, hn⟩
/-! who goes -/
theorem goMin_first {f : Rw → Nat} : ∀ {rs : List Rw} {b : Rw}, (∀ q ∈ rs, f b < f q) → goMin f rs b = b
  | [], _, _ => rfl
  | r :: rs, b, h => by
    unfold goMin
    rw [if_neg (by have := h r List.mem_cons_self; omega)]
    exact goMin_first fun q hq => h q (List.mem_cons_of_mem _ hq)
theorem goMin_le {f : Rw → Nat} : ∀ {rows : List Rw} {b : Rw}, ∀ q ∈ b :: rows, f (goMin f rows b) ≤ f q
  | [], b, q, h => by rw [List.mem_singleton.mp h]; exact Nat.le_refl _
  | r :: rs, b, q, h => by
    unfold goMin
    split
    · rename_i hlt
      have ih := goMin_le (f := f) (rows := rs) (b := r)
      rcases List.mem_cons.mp h with rfl | h
      · have := ih r List.mem_cons_self; omega
      · exact ih q h
    · rename_i hlt
      have ih := goMin_le (f := f) (rows := rs) (b := b)
      rcases List.mem_cons.mp h with rfl | h
      · exact ih q List.mem_cons_self
      · rcases List.mem_cons.mp h with rfl | h
        · have := ih b List.mem_cons_self; omega
        · exact ih q (List.mem_cons_of_mem _ h)
theorem Sm.first (h : Sm B rows came used dirty) {tr : Tr} {i : Nat} {c : Int} {cs : List Int} (hc : came = c :: cs) : goesR tr i rows "first" = c := by
  unfold goesR
  rw [if_neg (by decide)]
  cases rows with
  | nil => rw [h.cm] at hc; cases hc
  | cons r rs =>
    have e := h.cm.symm.trans hc
    rw [List.map_cons] at e
    have e1 : r.1 = c := (List.cons.inj e).1
    show (goMin (colF "first") rs r).1 = c
    rw [goMin_first, e1]
    intro q hq
    have := (List.pairwise_cons.mp h.cp).1 q hq
    unfold colF
    rw [if_pos rfl, if_pos rfl]
    exact this
theorem Sm.old (h : Sm B rows came used dirty) {tr : Tr} {i : Nat} {c : Int} {cs : List Int} (hc : used = c :: cs) : goesR tr i rows "old" = c := by
  unfold goesR
  rw [if_neg (by decide)]
  cases hrs : rows with
  | nil =>
    have : c ∈ came := h.umem.mp (by rw [hc]; exact List.mem_cons_self)
    rw [h.cm, hrs] at this
    cases this
  | cons r rs =>
    show (goMin (colF "old") rs r).1 = c
    have hm : goMin (colF "old") rs r ∈ r :: rs := goMin_mem
    rw [← hrs] at hm
    have hle : ∀ q ∈ rows, (goMin (colF "old") rs r).2.2.1 ≤ q.2.2.1 := fun q hq => by
      have := goMin_le (f := colF "old") (rows := rs) (b := r) q (by rw [← hrs]; exact hq)
      unfold colF at this
      rw [if_neg (by decide), if_neg (by decide)] at this
      exact this
    have h1 : (goMin (colF "old") rs r).1 ∈ used := h.umem.mpr (by rw [h.cm]; exact List.mem_map.mpr ⟨_, hm, rfl⟩)
    rw [hc] at h1
    rcases List.mem_cons.mp h1 with h1 | h1
    · exact h1
    · have hcin : c ∈ rows.map (·.1) := by rw [← h.cm]; exact h.umem.mp (by rw [hc]; exact List.mem_cons_self)
      obtain ⟨rc, hrc, e⟩ := List.mem_map.mp hcin
      have up := h.up
      rw [hc] at up
      have := (List.pairwise_cons.mp up).1 _ h1 rc hrc _ hm e rfl
      have h2 := hle rc hrc
      omega
end
theorem ltP2_minP : ∀ {ps : List (Int × Int)} {p : Int × Int}, minP p ps ∈ p :: ps ∧ ∀ q ∈ p :: ps, ltP2 q (minP p ps) = false
  | [], p => ⟨List.mem_cons_self, fun q hq => by
      rw [List.mem_singleton.mp hq]
      show ltP2 p p = false
      unfold ltP2
      rw [decide_eq_false]; omega⟩
  | y :: ps, p => by
    have hs : minP p (y :: ps) = minP (if ltP2 y p then y else p) ps := rfl
    rw [hs]
    by_cases hy : ltP2 y p = true
    · rw [if_pos hy]
      obtain ⟨h1, h2⟩ := ltP2_minP (ps := ps) (p := y)
      refine ⟨List.mem_cons_of_mem _ h1, fun q hq => ?_⟩
      rcases List.mem_cons.mp hq with rfl | hq
      · have h3 := h2 y List.mem_cons_self
        unfold ltP2 at hy h3 ⊢
        have hy := of_decide_eq_true hy
        have h3 := of_decide_eq_false h3
        rw [decide_eq_false]; omega
      · exact h2 q hq
    · rw [if_neg hy]
      obtain ⟨h1, h2⟩ := ltP2_minP (ps := ps) (p := p)
      refine ⟨?_, fun q hq => ?_⟩
      · rcases List.mem_cons.mp h1 with h1 | h1
        · rw [h1]; exact List.mem_cons_self
        · exact List.mem_cons_of_mem _ (List.mem_cons_of_mem _ h1)
      · rcases List.mem_cons.mp hq with rfl | hq
        · exact h2 q List.mem_cons_self
        · rcases List.mem_cons.mp hq with rfl | hq
          · have h3 := h2 p List.mem_cons_self
            have hy := (Bool.not_eq_true _).mp hy
            unfold ltP2 at hy h3 ⊢
            have hy := of_decide_eq_false hy
            have h3 := of_decide_eq_false h3
            rw [decide_eq_false]; omega
          · exact h2 q (List.mem_cons_of_mem _ hq)
theorem foldMin_le : ∀ {ns : List Int} {y : Int}, y ∈ ns → foldMin ns ≤ y := by
  have key : ∀ (l : List Int) (a y : Int), y = a ∨ y ∈ l → l.foldl min a ≤ y := by
    intro l
    induction l with
    | nil =>
      intro a y h
      rcases h with rfl | h
      · exact Int.le_refl _
      · cases h
    | cons b r ih =>
      intro a y h
      rw [List.foldl_cons]
      rcases h with rfl | h
      · exact Int.le_trans (ih (min y b) (min y b) (.inl rfl)) (Int.min_le_left ..)
      · rcases List.mem_cons.mp h with rfl | h
        · exact Int.le_trans (ih (min a y) (min a y) (.inl rfl)) (Int.min_le_right ..)
        · exact ih _ y (.inr h)
  intro ns y h
  cases ns with
  | nil => cases h
  | cons n r => exact key r n y (List.mem_cons.mp h)
/-- where a line stands behind, as the law tells it -/
def lateV (behind : List Int) (x : Int) : Int := if x ∈ behind then 0 - (behind.findIdx (fun y => y == x) : Nat) else -9999
def farL (behind : List Int) (came : List Int) : List (Int × Int) := came.map fun x => (lateV behind x, x)
theorem findIdx_map1 {x : Int} : ∀ {tr : Tr}, (tr.map (·.1)).findIdx (fun y => y == x) = tr.findIdx fun y => y.1 == x
  | [] => rfl
  | y :: tr => by
    rw [List.map_cons, List.findIdx_cons, List.findIdx_cons, findIdx_map1]
theorem late_next {tr : Tr} {i : Nat} (hl : tr.length ≤ 9000) (x y : Int) :
    (lateV ((tr.drop (i + 1)).map (·.1)) x < lateV ((tr.drop (i + 1)).map (·.1)) y → nextUse tr i y < nextUse tr i x) ∧ (lateV ((tr.drop (i + 1)).map (·.1)) x = lateV ((tr.drop (i + 1)).map (·.1)) y → nextUse tr i y = nextUse tr i x) := by
  unfold lateV nextUse
  rw [findIdx_map1, findIdx_map1]
  have hdl : (tr.drop (i + 1)).length ≤ 9000 := by rw [List.length_drop]; omega
  generalize tr.drop (i + 1) = l at hdl ⊢
  have key : ∀ z : Int, (z ∈ l.map (·.1) → l.findIdx (fun q => q.1 == z) < l.length) ∧ (z ∉ l.map (·.1) → l.findIdx (fun q => q.1 == z) = l.length) := fun z => by
    constructor
    · intro hz
      obtain ⟨q, hq, e⟩ := List.mem_map.mp hz
      exact List.findIdx_lt_length_of_exists ⟨q, hq, by simpa using e⟩
    · intro hz
      refine List.findIdx_eq_length.mpr fun q hq => ?_
      simp only [beq_eq_false_iff_ne]
      exact fun e => hz (List.mem_map.mpr ⟨q, hq, e⟩)
  obtain ⟨kx1, kx2⟩ := key x
  obtain ⟨ky1, ky2⟩ := key y
  by_cases hx : x ∈ l.map (·.1)
  · have := kx1 hx
    rw [if_pos hx]
    by_cases hy : y ∈ l.map (·.1)
    · have := ky1 hy
      rw [if_pos hy]; omega
    · have := ky2 hy
      rw [if_neg hy]; omega
  · have := kx2 hx
    rw [if_neg hx]
    by_cases hy : y ∈ l.map (·.1)
    · have := ky1 hy
      rw [if_pos hy]; omega
    · have := ky2 hy
      rw [if_neg hy]; omega
theorem Sm.far {B : Rw → Prop} {rows : List Rw} {came used dirty : List Int} (h : Sm B rows came used dirty) {tr : Tr} {i : Nat} {p : Int × Int} {ps : List (Int × Int)} (hl : tr.length ≤ 9000) (hp : farL ((tr.drop (i + 1)).map (·.1)) came = p :: ps) : goesR tr i rows "far" = (minP p ps).2 := by
  obtain ⟨h1, h2⟩ := ltP2_minP (ps := ps) (p := p)
  generalize minP p ps = m at h1 h2 ⊢
  rw [← hp] at h1 h2
  unfold farL at h1 h2
  obtain ⟨x, hx, rfl⟩ := List.mem_map.mp h1
  have hbest : ∀ y ∈ came, nextUse tr i y ≤ nextUse tr i x ∧ (nextUse tr i y = nextUse tr i x → x ≤ y) := fun y hy => by
    have h3 := of_decide_eq_false (h2 _ (List.mem_map.mpr ⟨y, hy, rfl⟩))
    obtain ⟨l1, l2⟩ := late_next (i := i) hl x y
    obtain ⟨l3, l4⟩ := late_next (i := i) hl y x
    simp only at h3
    by_cases e : lateV ((tr.drop (i + 1)).map (·.1)) x = lateV ((tr.drop (i + 1)).map (·.1)) y
    · have := l2 e
      exact ⟨by omega, fun _ => by omega⟩
    · have := l1 (by omega)
      exact ⟨by omega, fun z => by omega⟩
  have hx' : x ∈ rows.map (·.1) := by rw [← h.cm]; exact hx
  obtain ⟨rx, hrx, ex⟩ := List.mem_map.mp hx'
  have hmax : foldMax (rows.map fun r => (nextUse tr i r.1 : Int)) = (nextUse tr i x : Int) := by
    have a1 : (nextUse tr i x : Int) ≤ foldMax (rows.map fun r => (nextUse tr i r.1 : Int)) := foldMax_ge (List.mem_map.mpr ⟨rx, hrx, by rw [ex]⟩)
    have a2 : foldMax (rows.map fun r => (nextUse tr i r.1 : Int)) ∈ rows.map fun r => (nextUse tr i r.1 : Int) := foldMax_mem (by
      intro z
      rw [List.map_eq_nil_iff] at z
      rw [z] at hrx
      cases hrx)
    obtain ⟨r, hr, er⟩ := List.mem_map.mp a2
    have := (hbest r.1 (by rw [h.cm]; exact List.mem_map.mpr ⟨r, hr, rfl⟩)).1
    omega
  unfold goesR
  rw [if_pos rfl]
  unfold goFar
  rw [hmax]
  have hxin : x ∈ (rows.filter fun r => decide ((nextUse tr i r.1 : Int) = (nextUse tr i x : Int))).map (·.1) := List.mem_map.mpr ⟨rx, List.mem_filter.mpr ⟨hrx, by rw [ex]; exact decide_eq_true rfl⟩, ex⟩
  have b1 := foldMin_le hxin
  have b2 := foldMin_mem (ns := (rows.filter fun r => decide ((nextUse tr i r.1 : Int) = (nextUse tr i x : Int))).map (·.1)) (by intro z; rw [z] at hxin; cases hxin)
  obtain ⟨r, hr, er⟩ := List.mem_map.mp b2
  obtain ⟨c1, c2⟩ := List.mem_filter.mp hr
  have c2 := of_decide_eq_true c2
  have := (hbest r.1 (by rw [h.cm]; exact List.mem_map.mpr ⟨r, c1, rfl⟩)).2 (by omega)
  show _ = x
  omega
theorem dcount_len {rows : List Rw} : (rows.map fun r => if r.2.2.2 then 1 else 0).sum = ((rows.filter fun r => r.2.2.2).map (·.1)).length := by
  induction rows with
  | nil => rfl
  | cons r rs ih =>
    rw [List.map_cons, List.sum_cons, ih, List.filter_cons]
    split
    · rw [List.map_cons, List.length_cons]; omega
    · omega
theorem Sm.count {B : Rw → Prop} {rows : List Rw} {came used dirty : List Int} (h : Sm B rows came used dirty) : (rows.map fun r => if r.2.2.2 then 1 else 0).sum = dirty.length := by
  rw [dcount_len]
  have nd : ((rows.filter fun r => r.2.2.2).map (·.1)).Nodup := h.nd.filter _
  refine ((List.perm_ext_iff_of_nodup nd h.dn).mpr fun x => ?_).length_eq
  rw [h.dm, List.mem_map]
  constructor
  · rintro ⟨r, hr, rfl⟩
    obtain ⟨h1, h2⟩ := List.mem_filter.mp hr
    exact ⟨r, h1, rfl, h2⟩
  · rintro ⟨r, hr, rfl, hd⟩
    exact ⟨r, List.mem_filter.mpr ⟨hr, hd⟩, rfl⟩
end K33
end M

namespace M
namespace K33
open PySem L2
/-! ### the law's own walk over a trace -/
abbrev EM (tr : Tr) (room : Nat) (rule : Str) (n d f p : Nat) (pl li wr go be fa : Option D) : En := [some (tD tr), some (.int (room : Nat)), some (.str rule), some (.ref n), some (.ref (n + 1)), some (.ref d), some (.int (f : Nat)), some (.int (p : Nat)), pl, li, wr, go, be, fa, none, none]
structure At (S0 : Sto) (d : Nat) (came used dirty : List Int) (S : Sto) : Prop where
  pre : ∃ T, S = S0 ++ T
  dl : S0.length + 2 ≤ d
  c : S[S0.length]? = some (.lst (came.map .int))
  u : S[S0.length + 1]? = some (.lst (used.map .int))
  y : S[d]? = some (.lst (dirty.map .int))
theorem lt_of_get {S : Sto} {n : Nat} {o : O} (h : S[n]? = some o) : n < S.length := (List.getElem?_eq_some_iff.mp h).1
section
variable {S0 S : Sto} {d : Nat} {came used dirty xs : List Int} {o : O}
theorem pre_set {n : Nat} (h : ∃ T, S = S0 ++ T) (hn : S0.length ≤ n) : ∃ T, S.set n o = S0 ++ T := by
  obtain ⟨T, rfl⟩ := h
  exact ⟨_, List.set_append_right _ _ hn⟩
theorem pre_snoc (h : ∃ T, S = S0 ++ T) : ∃ T, S ++ [o] = S0 ++ T := by
  obtain ⟨T, rfl⟩ := h
  exact ⟨T ++ [o], List.append_assoc ..⟩
theorem At.setC (h : At S0 d came used dirty S) : At S0 d xs used dirty (S.set S0.length (.lst (xs.map .int))) := by
  have := h.dl
  exact ⟨pre_set h.pre (Nat.le_refl _), h.dl, by rw [List.getElem?_set_self (lt_of_get h.c)], by rw [List.getElem?_set_ne (by omega)]; exact h.u, by rw [List.getElem?_set_ne (by omega)]; exact h.y⟩
theorem At.setU (h : At S0 d came used dirty S) : At S0 d came xs dirty (S.set (S0.length + 1) (.lst (xs.map .int))) := by
  have := h.dl
  exact ⟨pre_set h.pre (by omega), h.dl, by rw [List.getElem?_set_ne (by omega)]; exact h.c, by rw [List.getElem?_set_self (lt_of_get h.u)], by rw [List.getElem?_set_ne (by omega)]; exact h.y⟩
theorem At.setY (h : At S0 d came used dirty S) : At S0 d came used xs (S.set d (.lst (xs.map .int))) := by
  have := h.dl
  exact ⟨pre_set h.pre (by omega), h.dl, by rw [List.getElem?_set_ne (by omega)]; exact h.c, by rw [List.getElem?_set_ne (by omega)]; exact h.u, by rw [List.getElem?_set_self (lt_of_get h.y)]⟩
theorem At.snoc (h : At S0 d came used dirty S) : At S0 d came used dirty (S ++ [o]) := ⟨pre_snoc h.pre, h.dl, get_old h.c, get_old h.u, get_old h.y⟩
theorem At.newY (h : At S0 d came used dirty S) : At S0 S.length came used xs (S ++ [.lst (xs.map .int)]) := ⟨pre_snoc h.pre, by have := lt_of_get h.u; omega, get_old h.c, get_old h.u, get_end ..⟩
end
section
variable {S S1 : Sto} {n : Nat} {xs : List Int} {x : Int} {E : En}
theorem append_ok (h : S[n]? = some (.lst (xs.map .int))) (hl : xs.length < 1000000) : fAppend (.ref n) [.int x] S = .ok .non (S.set n (.lst ((xs ++ [x]).map .int))) := by
  have hz : (1000000 : Nat) ≤ sizeLine := by decide
  unfold fAppend
  simp only [h]
  rw [if_pos (by rw [List.length_map]; omega), List.map_append]
  rfl
theorem ixI_in (h : x ∈ xs) : ixI xs x = some (xs.findIdx fun y => y == x) := by
  unfold ixI
  rw [if_pos (List.findIdx_lt_length_of_exists ⟨x, h, by simp⟩)]
theorem remove_ok (h : S[n]? = some (.lst (xs.map .int))) (hx : x ∈ xs) : fRemove (.ref n) [.int x] S = .ok .non (S.set n (.lst ((xs.erase x).map .int))) := by
  unfold fRemove
  simp only [h, toInts_map, ixI_in hx]
  have : xs.eraseIdx (xs.findIdx fun y => y == x) = xs.erase x := (List.erase_eq_eraseIdx_of_idxOf rfl).symm
  rw [this]
theorem count_ok (h : S[n]? = some (.lst (xs.map .int))) : fCountL (.ref n) [.int x] S = .ok (.int (xs.count x : Nat)) S := by
  unfold fCountL
  simp only [h, toInts_map]
theorem index_ok (h : S[n]? = some (.lst (xs.map .int))) (hx : x ∈ xs) : fIndexL (.ref n) [.int x] S = .ok (.int (xs.findIdx (fun y => y == x) : Nat)) S := by
  unfold fIndexL
  simp only [h, toInts_map, ixI_in hx]
theorem meth_ok {f : D → List D → Sto → Rs D} {mo : En → Sto → Rs D} {t : En → Sto → Rs (List D)} {ds ys : List D} {r : Rs D} (h1 : mo E S = .ok (.ref n) S) (h2 : S[n]? = some (.lst ds)) (h3 : t E S = .ok ys S) (h4 : f (.ref n) ys S = r) : mMeth f mo t E S = r := by
  unfold mMeth
  rw [h1, bind_ok]
  have : isLs S (.ref n) = true := by
    unfold isLs
    simp only [h2]
  rw [if_pos this, h3, bind_ok]
  exact h4
theorem inF_ints : inF (.int x) (xs.map .int) = some (decide (x ∈ xs)) := by
  unfold inF
  have h1 : (xs.map D.int).all flatD = true := List.all_eq_true.mpr fun d hd => by
    obtain ⟨y, _, rfl⟩ := List.mem_map.mp hd
    rfl
  rw [h1]
  show some _ = _
  congr 1
  rw [List.any_map]
  have : ((fun y => eqF y (D.int x)) ∘ D.int) = fun y : Int => y == x := rfl
  rw [this]
  by_cases hx : x ∈ xs
  · rw [decide_eq_true hx]
    exact List.any_eq_true.mpr ⟨x, hx, by simp⟩
  · rw [decide_eq_false hx]
    refine List.any_eq_false.mpr fun y hy => ?_
    simp only [beq_iff_eq]
    exact fun e => hx (by rw [← e]; exact hy)
theorem in_lst (h : S[n]? = some (.lst (xs.map .int))) : opIn (.int x) (.ref n) S = .ok (.bl (decide (x ∈ xs))) S := by
  unfold opIn inD
  simp only [h, inF_ints]
theorem notin_lst (h : S[n]? = some (.lst (xs.map .int))) : opNotIn (.int x) (.ref n) S = .ok (.bl (!decide (x ∈ xs))) S := by
  unfold opNotIn inD
  simp only [h, inF_ints]
theorem iA_lst {m : En → Sto → Rs D} {ds : List D} (h1 : m E S = .ok (.ref n) S) (h2 : S[n]? = some (.lst ds)) : iA m E S = .ok ⟨ds, fun S => S[n]? = some (.lst ds), none⟩ S := by
  unfold iA
  rw [h1, bind_ok]
  unfold aiOf
  simp only [h2]
end
theorem cut_from {xs : List D} {n : Nat} : cutD xs (some (n : Int)) none = xs.drop n := by
  unfold cutD
  have : HT.sIx xs.length 0 (some (n : Int)) = min n xs.length := HT.sIx_nat _ _ n
  rw [this, HT.sIx_none]
  by_cases h : n ≤ xs.length
  · rw [Nat.min_eq_left h, List.take_of_length_le (by rw [List.length_drop]; exact Nat.le_refl _)]
  · rw [Nat.min_eq_right (by omega), List.drop_of_length_le (Nat.le_refl _), List.drop_of_length_le (by omega)]; simp
section
variable {tr : Tr} {room n d f p i : Nat} {rule : Str} {pl li wr go be fa : Option D} {S : Sto} {came dirty behind : List Int} {g : Int}
theorem comp_behind (hl : tr.length ≤ 1000000) : mComp (iA (mSl (mV 0) (oSome (m2 opAdd (mV 8) (mC (.int 1)))) (oNone))) [14, 15] (gT 2 (gCons (gN 14) (gCons (gN 15) (gNil)))) (tYesM) (mV 14) (EM tr room rule n d f p (some (.int (i : Nat))) li wr go be fa) S = .ok (((tr.drop (i + 1)).map (·.1)).map .int) S := by
  have hz : (1000000 : Nat) ≤ sizeLine := by decide
  have hmi : iA (mSl (mV 0) (oSome (m2 opAdd (mV 8) (mC (.int 1)))) (oNone)) (EM tr room rule n d f p (some (.int (i : Nat))) li wr go be fa) S = .ok ⟨(tr.drop (i + 1)).map eD, fun _ => True, none⟩ S := by
    have e : iA (mSl (mV 0) (oSome (m2 opAdd (mV 8) (mC (.int 1)))) (oNone)) (EM tr room rule n d f p (some (.int (i : Nat))) li wr go be fa) S = .ok ⟨cutD (tr.map eD) (some ((i + 1 : Nat) : Int)) none, fun _ => True, none⟩ S := rfl
    rw [e, cut_from, List.map_drop]
  rw [mComp_pure (S1 := S) (fun d => match d with | .tup [.int a, .bl _] => some (.int a) | _ => none) hmi trivial (fun d hd => ?_) (by rw [List.length_map, List.length_drop]; omega)]
  · congr 1
    rw [List.filterMap_map]
    generalize tr.drop (i + 1) = l
    induction l with
    | nil => rfl
    | cons x r ih => rw [List.map_cons, List.map_cons, ← ih]; rfl
  · obtain ⟨x, _, rfl⟩ := List.mem_map.mp hd
    rfl
theorem comp_far {b : Nat} (hc : S[n]? = some (.lst (came.map .int))) (hb : S[b]? = some (.lst (behind.map .int))) (hl : came.length ≤ 1000000) :
    mComp (iA (mV 3)) [14] (gN 14) (tYesM) (mTup (aCons (mIfE (tB (m2 opIn (mV 14) (mV 12))) (m2 opSub (mC (.int 0)) (mMeth fIndexL (mV 12) (aCons (mV 14) (aNil)))) (m1 opNeg (mC (.int 9999)))) (aCons (mV 14) (aNil)))) (EM tr room rule n d f p pl li wr go (some (.ref b)) fa) S = .ok ((farL behind came).map prT) S := by
  have hz : (1000000 : Nat) ≤ sizeLine := by decide
  rw [mComp_pure (S1 := S) (items := came.map .int) (fun d => match d with | .int a => some (prT (lateV behind a, a)) | _ => none) (iA_lst rfl hc) hc (fun d hd => ?_) (by rw [List.length_map]; omega)]
  · congr 1
    unfold farL
    rw [List.filterMap_map, List.map_map]
    clear hc hl
    induction came with
    | nil => rfl
    | cons x r ih => rw [List.map_cons, ← ih]; rfl
  · obtain ⟨x, _, rfl⟩ := List.mem_map.mp hd
    refine body_yes (E1 := [some (tD tr), some (.int (room : Nat)), some (.str rule), some (.ref n), some (.ref (n + 1)), some (.ref d), some (.int (f : Nat)), some (.int (p : Nat)), pl, li, wr, go, some (.ref b), fa, some (.int x), none]) rfl ?_
    refine tup_ok (ds := [.int (lateV behind x), .int x]) (cons_ok ?_ rfl) (by simp)
    unfold mIfE lateV
    rw [tB_ok (m2_ok rfl rfl (in_lst hb)), bind_ok]
    by_cases hx : x ∈ behind
    · rw [decide_eq_true hx, if_pos rfl, if_pos hx]
      exact m2_ok rfl (meth_ok rfl hb rfl (index_ok hb hx)) rfl
    · rw [decide_eq_false hx, if_neg (by decide), if_neg hx]
      rfl
theorem comp_dirty (hy : S[d]? = some (.lst (dirty.map .int))) (hl : dirty.length ≤ 1000000) : mComp (iA (mV 5)) [14] (gN 14) (tB (m2 opNe (mV 14) (mV 11))) (mV 14) (EM tr room rule n d f p pl li wr (some (.int g)) be fa) S = .ok ((dirty.filter fun x => x != g).map .int) S := by
  have hz : (1000000 : Nat) ≤ sizeLine := by decide
  rw [mComp_pure (S1 := S) (items := dirty.map .int) (fun d => match d with | .int a => if a != g then some (.int a) else none | _ => none) (iA_lst rfl hy) hy (fun d hd => ?_) (by rw [List.length_map]; omega)]
  · congr 1
    rw [List.filterMap_map]
    clear hy hl
    show List.filterMap (fun a : Int => if (a != g) = true then some (D.int a) else none) dirty = _
    induction dirty with
    | nil => rfl
    | cons x r ih =>
      rw [List.filterMap_cons, List.filter_cons, ih]
      by_cases hx : (x != g) = true
      · rw [if_pos hx, if_pos hx]; rfl
      · rw [if_neg hx, if_neg hx]
  · obtain ⟨x, _, rfl⟩ := List.mem_map.mp hd
    have e : bodyL [14] (gN 14) (tB (m2 opNe (mV 14) (mV 11))) (mV 14) (EM tr room rule n d f p pl li wr (some (.int g)) be fa) (.int x) S = if (!decide (x = g)) = true then .ok (some (.int x)) S else .ok none S := rfl
    rw [e]
    show _ = Rs.ok (if x != g then some (D.int x) else none) S
    by_cases h : x = g <;> simp [h]
end
end K33
end M

namespace M
namespace K33
open PySem L2
theorem run_len {tr : Tr} {room : Nat} {rule : Str} : ∀ i, (runN tr room rule i).1.length ≤ i
  | 0 => Nat.le_refl _
  | i + 1 => by
    have ih := run_len (tr := tr) (room := room) (rule := rule) i
    cases hy : tr[i]? with
    | none =>
      have : runN tr room rule (i + 1) = runN tr room rule i := by rw [runN]; simp only [hy]
      rw [this]; omega
    | some y =>
      have e : (runN tr room rule (i + 1)).1.length = (lsM (runN tr room rule (i + 1))).length := by unfold lsM; rw [List.length_map]
      rw [e, run_lines hy]
      unfold lsM
      rw [List.length_map]
      have := come_length (tr := tr) (room := room) (rule := rule) (a := i) (x := y.1) (st := runN tr room rule i)
      omega
theorem eq_str_ok {a b : En → Sto → Rs D} {E : En} {S : Sto} {x y : Str} (h1 : a E S = .ok (.str x) S) (h2 : b E S = .ok (.str y) S) : tB (m2 opEq a b) E S = .ok (decide (x = y)) S := tB_ok (m2_ok h1 h2 eq_str)
theorem ifE_ok {t : En → Sto → Rs Bool} {a b : En → Sto → Rs D} {E : En} {S : Sto} {c : Bool} {x y : D} (h : t E S = .ok c S) (h1 : a E S = .ok x S) (h2 : b E S = .ok y S) : mIfE t a b E S = .ok (if c then x else y) S := by
  unfold mIfE
  rw [h, bind_ok]
  cases c
  · exact h2
  · exact h1
theorem ix_0 {S : Sto} {n : Nat} {x : Int} {xs : List Int} (h : S[n]? = some (.lst ((x :: xs).map .int))) : opIx (.ref n) (.int 0) S = .ok (.int x) S := ix_lst h (by
  have : atI (List.map D.int (x :: xs)) ((0 : Nat) : Int) = some (D.int x) := by
    rw [atI_nat (by simp)]; rfl
  exact this)
section
variable {tr : Tr} {room d i : Nat} {rule : Str} {y : Int × Bool} {go be fa : Option D} {S0 S : Sto} {came used dirty : List Int} {R : D → Sto → Prop}
theorem lm_step (hy : tr[i]? = some y) (a : At S0 d came used dirty S) (hs : Sm (B1 i) (runN tr room rule i).1 came used dirty) (hl : tr.length ≤ 9000) (hr : 1 ≤ room) (hru : rule = "first" ∨ rule = "old" ∨ rule = "far") :
    WS (w__law_moves_2 (EM tr room rule S0.length d (runN tr room rule i).2.1 (runN tr room rule i).2.2 (some (.int (i : Nat))) (some (.int y.1)) (some (.bl y.2)) go be fa) S)
      (fun E' S' => ∃ d' came' used' dirty' pl li wr go be fa, E' = EM tr room rule S0.length d' (runN tr room rule (i + 1)).2.1 (runN tr room rule (i + 1)).2.2 pl li wr go be fa ∧ At S0 d' came' used' dirty' S' ∧ Sm (B1 (i + 1)) (runN tr room rule (i + 1)).1 came' used' dirty') R := by
  have hi : i < tr.length := (List.getElem?_eq_some_iff.mp hy).1
  obtain ⟨hL1, hL2, hL3⟩ := run_inv (tr := tr) (rule := rule) hr i
  have hcl : came.length = (runN tr room rule i).1.length := by rw [hs.cm, List.length_map]
  have hrl : (runN tr room rule i).1.length ≤ i := run_len i
  have hul : used.length = came.length := hs.us.length_eq
  have hdl : dirty.length ≤ came.length := by
    have e := hs.count
    have : ∀ rows : List Rw, (rows.map fun r => if r.2.2.2 then 1 else 0).sum ≤ rows.length := fun rows => by
      induction rows with
      | nil => exact Nat.le_refl _
      | cons r rs ih =>
        rw [List.map_cons, List.sum_cons, List.length_cons]
        split <;> omega
    have := this (runN tr room rule i).1
    omega
  unfold w__law_moves_2
  refine ws_seq (WS.mono (N := fun E' S' => ∃ d' came' used' dirty' go be fa, E' = EM tr room rule S0.length d' (comeM tr room rule i y.1 (runN tr room rule i)).2.1 (comeM tr room rule i y.1 (runN tr room rule i)).2.2 (some (.int (i : Nat))) (some (.int y.1)) (some (.bl y.2)) go be fa ∧ At S0 d' came' used' dirty' S' ∧ Sm (B2 i y.1) (comeM tr room rule i y.1 (runN tr room rule i)).1 came' used' dirty' ∧ used'.length ≤ i + 1 ∧ dirty'.length ≤ i + 1) (R := R) ?_ ?_ (fun _ _ h => h))
  · refine ws_if (Ok.of (tB_ok (m2_ok rfl rfl (notin_lst a.c))) ⟨fun hc => ?_, fun hc => ws_nil ?_⟩)
    · have hx : y.1 ∉ came := by simpa using hc
      have hln : ¬ (lookR (runN tr room rule i).1 y.1).isSome = true := by
        rw [some_lines]
        unfold lsM
        rw [← hs.cm]; exact hx
      have ecome : comeM tr room rule i y.1 (runN tr room rule i) = (setR (evict tr room rule i (runN tr room rule i).1 (runN tr room rule i).2.2).1 (y.1, i, i, false), (runN tr room rule i).2.1 + 1, (evict tr room rule i (runN tr room rule i).1 (runN tr room rule i).2.2).2) := by
        unfold comeM
        rw [if_neg hln]
      rw [ecome]
      refine ws_seq (WS.mono (N := fun E' S' => ∃ d' came' used' dirty' go be fa, E' = EM tr room rule S0.length d' (runN tr room rule i).2.1 (evict tr room rule i (runN tr room rule i).1 (runN tr room rule i).2.2).2 (some (.int (i : Nat))) (some (.int y.1)) (some (.bl y.2)) go be fa ∧ At S0 d' came' used' dirty' S' ∧ Sm (B1 i) (evict tr room rule i (runN tr room rule i).1 (runN tr room rule i).2.2).1 came' used' dirty' ∧ came'.length ≤ i ∧ used'.length ≤ i ∧ dirty'.length ≤ i ∧ y.1 ∉ came') (R := R) ?_ ?_ (fun _ _ h => h))
      · refine ws_if (Ok.of (tB_ok (m2_ok (n1_ok rfl (len_lst a.c)) rfl eq_int)) ⟨fun hf => ?_, fun hf => ws_nil ?_⟩)
        · have hf : (runN tr room rule i).1.length = room := by
            have := of_decide_eq_true hf
            rw [List.length_map] at this
            omega
          have hcne : came ≠ [] := fun z => by rw [z] at hcl; simp at hcl; omega
          have hune : used ≠ [] := fun z => by rw [z] at hul; simp at hul; omega
          obtain ⟨c0, cs, hc0⟩ := List.exists_cons_of_ne_nil hcne
          obtain ⟨u0, us, hu0⟩ := List.exists_cons_of_ne_nil hune
          have eev : evict tr room rule i (runN tr room rule i).1 (runN tr room rule i).2.2 = ((runN tr room rule i).1.filter (fun r => r.1 != goesR tr i (runN tr room rule i).1 rule), (runN tr room rule i).2.2 + dirtyN (lookR (runN tr room rule i).1 (goesR tr i (runN tr room rule i).1 rule))) := by
            unfold evict
            rw [if_pos hf]
          rw [eev]
          have hgm : goesR tr i (runN tr room rule i).1 rule ∈ came := by
            rw [hs.cm]
            exact goesR_mem (fun z => by rw [z] at hf; simp at hf; omega)
          have hgu : goesR tr i (runN tr room rule i).1 rule ∈ used := hs.umem.mpr hgm
          have hac := a.c
          have hau := a.u
          rw [hc0] at hac
          rw [hu0] at hau
          refine ws_seq (ws_asg (Ok.of (ifE_ok (eq_str_ok rfl rfl) (m2_ok rfl rfl (ix_0 hac)) (m2_ok rfl rfl (ix_0 hau))) (Ok.of rfl ?_)))
          refine ws_seq (WS.mono (N := fun E' S' => ∃ be fa, E' = EM tr room rule S0.length d (runN tr room rule i).2.1 (runN tr room rule i).2.2 (some (.int (i : Nat))) (some (.int y.1)) (some (.bl y.2)) (some (.int (goesR tr i (runN tr room rule i).1 rule))) be fa ∧ At S0 d came used dirty S') (R := R) ?_ ?_ (fun _ _ h => h))
          · refine ws_if (Ok.of (eq_str_ok rfl rfl) ⟨fun hc => ?_, fun hc => ws_nil ?_⟩)
            · have hc : rule = "far" := of_decide_eq_true hc
              refine ws_seq (ws_asg (Ok.of (ad_ok (comp_behind (by omega))) (Ok.of rfl ?_)))
              refine ws_seq (ws_asg (Ok.of (ad_ok (comp_far (a.snoc).c (get_end _ _) (by omega))) (Ok.of rfl ?_)))
              have hfl : farL ((tr.drop (i + 1)).map (·.1)) came = (lateV ((tr.drop (i + 1)).map (·.1)) c0, c0) :: farL ((tr.drop (i + 1)).map (·.1)) cs := by rw [hc0]; rfl
              have hg := hs.far hl hfl
              subst hc
              rw [hg]
              have hmin : ∀ S' : Sto, fMinP [.ref (S ++ [O.lst (((tr.drop (i + 1)).map (·.1)).map .int)]).length] (S ++ [O.lst (((tr.drop (i + 1)).map (·.1)).map .int)] ++ [.lst ((farL ((tr.drop (i + 1)).map (·.1)) came).map prT)]) = .ok (prT (minP (lateV ((tr.drop (i + 1)).map (·.1)) c0, c0) (farL ((tr.drop (i + 1)).map (·.1)) cs))) (S ++ [O.lst (((tr.drop (i + 1)).map (·.1)).map .int)] ++ [.lst ((farL ((tr.drop (i + 1)).map (·.1)) came).map prT)]) := fun S' => by
                unfold fMinP
                simp only [get_end, toPairs_map, hfl]
              refine ws_asg (Ok.of (m2_ok (n1_ok rfl (hmin S)) rfl rfl) (Ok.of rfl ?_))
              exact ⟨_, _, rfl, a.snoc.snoc⟩
            · have hc : rule ≠ "far" := of_decide_eq_false hc
              refine ⟨be, fa, ?_, a⟩
              rcases hru with rfl | rfl | rfl
              · rw [hs.first hc0]; rfl
              · rw [hs.old hu0]; rfl
              · exact absurd rfl hc
          · rintro E1 S1 ⟨be, fa, rfl, a⟩
            generalize goesR tr i (runN tr room rule i).1 rule = g at hgm hgu ⊢
            refine ws_seq (ws_expr (Ok.of (meth_ok rfl a.c rfl (remove_ok a.c hgm)) ?_))
            have a2 := a.setC (xs := came.erase g)
            refine ws_seq (ws_expr (Ok.of (meth_ok rfl a2.u rfl (remove_ok a2.u hgu)) ?_))
            have a3 := a2.setU (xs := used.erase g)
            have hadd : ∀ S' : Sto, opAdd (.int ((runN tr room rule i).2.2 : Nat)) (.int (dirty.count g : Nat)) S' = .ok (.int (((runN tr room rule i).2.2 + dirtyN (lookR (runN tr room rule i).1 g) : Nat) : Int)) S' := fun S' => by
              rw [add_int, hs.puts g]; rfl
            refine ws_seq (ws_asg (Ok.of (m2_ok rfl (meth_ok rfl a3.y rfl (count_ok a3.y)) (hadd _)) (Ok.of rfl ?_)))
            refine ws_asg (Ok.of (ad_ok (comp_dirty a3.y (by omega))) (Ok.of rfl ?_))
            have l1 := List.length_erase_of_mem hgm
            have l2 := List.length_erase_of_mem hgu
            have l3 := List.length_filter_le (fun x => x != g) dirty
            exact ⟨_, _, _, _, _, _, _, rfl, a3.newY, hs.evic g, by omega, by omega, by omega, fun z => hx (List.mem_of_mem_erase z)⟩
        · have hf : ¬ (runN tr room rule i).1.length = room := by
            have := of_decide_eq_false hf
            rw [List.length_map] at this
            omega
          have eev : evict tr room rule i (runN tr room rule i).1 (runN tr room rule i).2.2 = ((runN tr room rule i).1, (runN tr room rule i).2.2) := by
            unfold evict
            rw [if_neg hf]
          rw [eev]
          exact ⟨_, _, _, _, _, _, _, rfl, a, hs, by omega, by omega, by omega, hx⟩
      · rintro E1 S1 ⟨d1, came1, used1, dirty1, go1, be1, fa1, rfl, a1, hs1, m1, m2', m3, hx1⟩
        refine ws_seq (ws_asg (Ok.of (m2_ok rfl rfl rfl) (Ok.of rfl ?_)))
        refine ws_seq (ws_expr (Ok.of (meth_ok rfl a1.c rfl (append_ok a1.c (by omega))) ?_))
        have a2 := a1.setC (xs := came1 ++ [y.1])
        refine ws_expr (Ok.of (meth_ok rfl a2.u rfl (append_ok a2.u (by omega))) ?_)
        have a3 := a2.setU (xs := used1 ++ [y.1])
        exact ⟨_, _, _, _, _, _, _, rfl, a3, hs1.add hx1, by rw [List.length_append, List.length_singleton]; omega, by omega⟩
    · have hx : y.1 ∈ came := by simpa using hc
      have hln : (lookR (runN tr room rule i).1 y.1).isSome = true := by
        rw [some_lines]
        unfold lsM
        rw [← hs.cm]; exact hx
      have ecome : comeM tr room rule i y.1 (runN tr room rule i) = runN tr room rule i := by
        unfold comeM
        rw [if_pos hln]
      rw [ecome]
      exact ⟨_, _, _, _, _, _, _, rfl, a, hs.mono fun r ⟨h1, h2⟩ => ⟨by omega, fun _ => h2⟩, by omega, by omega⟩
  · rintro E1 S1 ⟨d1, came1, used1, dirty1, go1, be1, fa1, rfl, a1, hs1, m1, m2'⟩
    obtain ⟨r0, hk, _⟩ := come_look (tr := tr) (room := room) (rule := rule) (a := i) (x := y.1) (st := runN tr room rule i)
    have e := run_succ (room := room) (rule := rule) hy
    have et : touchM i y (comeM tr room rule i y.1 (runN tr room rule i)) = (setR (comeM tr room rule i y.1 (runN tr room rule i)).1 (y.1, r0.2.1, i, r0.2.2.2 || y.2), (comeM tr room rule i y.1 (runN tr room rule i)).2) := by
      unfold touchM
      rw [hk]; rfl
    rw [e, et]
    have hst := hs1.touch (w := y.2) hk
    have hxu : y.1 ∈ used1 := by
      refine hs1.umem.mpr ?_
      rw [hs1.cm]
      obtain ⟨q1, q2⟩ := look_some hk
      exact List.mem_map.mpr ⟨r0, q1, q2⟩
    have l2 := List.length_erase_of_mem hxu
    refine ws_seq (ws_expr (Ok.of (meth_ok rfl a1.u rfl (remove_ok a1.u hxu)) ?_))
    have a2 := a1.setU (xs := used1.erase y.1)
    refine ws_seq (ws_expr (Ok.of (meth_ok rfl a2.u rfl (append_ok a2.u (by omega))) ?_))
    have a3 := a2.setU (xs := used1.erase y.1 ++ [y.1])
    have ht : ∀ E' S', E' = EM tr room rule S0.length d1 (comeM tr room rule i y.1 (runN tr room rule i)).2.1 (comeM tr room rule i y.1 (runN tr room rule i)).2.2 (some (.int (i : Nat))) (some (.int y.1)) (some (.bl y.2)) go1 be1 fa1 → S'[d1]? = some (.lst (dirty1.map .int)) → tAndM (tV (mV 10)) (tB (m2 opNotIn (mV 9) (mV 5))) E' S' = .ok (y.2 && !decide (y.1 ∈ dirty1)) S' := by
      rintro E' S' rfl hd
      have e1 : tV (mV 10) (EM tr room rule S0.length d1 (comeM tr room rule i y.1 (runN tr room rule i)).2.1 (comeM tr room rule i y.1 (runN tr room rule i)).2.2 (some (.int (i : Nat))) (some (.int y.1)) (some (.bl y.2)) go1 be1 fa1) S' = .ok y.2 S' := rfl
      unfold tAndM
      rw [e1, bind_ok]
      cases hw : y.2 with
      | false => rfl
      | true =>
        rw [if_pos rfl, tB_ok (m2_ok rfl rfl (notin_lst hd))]
        rfl
    refine ws_if (Ok.of (ht _ _ rfl a3.y) ⟨fun hc => ?_, fun hc => ws_nil ?_⟩)
    · have hc' : y.2 = true ∧ y.1 ∉ dirty1 := by simpa using hc
      rw [if_pos hc'] at hst
      refine ws_expr (Ok.of (meth_ok rfl a3.y rfl (append_ok a3.y (by omega))) ?_)
      exact ⟨_, _, _, _, _, _, _, _, _, _, rfl, a3.setY (xs := dirty1 ++ [y.1]), hst⟩
    · have hc' : ¬ (y.2 = true ∧ y.1 ∉ dirty1) := by
        intro z
        have : (y.2 && !decide (y.1 ∈ dirty1)) = true := by simpa using z
        rw [this] at hc
        cases hc
      rw [if_neg hc'] at hst
      exact ⟨_, _, _, _, _, _, _, _, _, _, rfl, a3, hst⟩
end
end K33
end M

namespace M
namespace K33
open PySem L2
theorem and_ok {a b : En → Sto → Rs Bool} {E : En} {S S1 : Sto} {r : Rs Bool} (h1 : a E S = .ok true S1) (h2 : b E S1 = r) : tAndM a b E S = r := by
  unfold tAndM; rw [h1, bind_ok, if_pos rfl]; exact h2
theorem and_no {a b : En → Sto → Rs Bool} {E : En} {S S1 : Sto} (h1 : a E S = .ok false S1) : tAndM a b E S = .ok false S1 := by
  unfold tAndM; rw [h1, bind_ok, if_neg (by simp)]
theorem nk_ok {a b n : Nat} {f : List D → Sto → Rs D} {t tk : En → Sto → Rs (List D)} {E : En} {S S1 S2 S3 : Sto} {ds es : List D} {d : D} (h1 : t E S = .ok ds S1) (h2 : tk E S1 = .ok es S2) (hl : ds.length = a ∧ es.length = b) (hn : (ds ++ es).length = n) (h : f (ds ++ es) S2 = .ok d S3) : mNK a b (mCl n f) t tk E S = .ok d S3 := by
  unfold mNK mCl
  rw [h1, bind_ok, h2, bind_ok, if_pos hl, if_pos hn, h]; rfl
/-! ### what is heard of a refusal -/
theorem at_k {S T : Sto} {k : Nat} : (S ++ T)[S.length + k]? = T[k]? := by
  rw [List.getElem?_append_right (Nat.le_add_right ..), Nat.add_sub_cancel_left]
theorem set_k {S T : Sto} {k : Nat} {o : O} : (S ++ T).set (S.length + k) o = S ++ T.set k o := by
  rw [List.set_append_right _ _ (Nat.le_add_right ..), Nat.add_sub_cancel_left]
section
variable {S T : Sto} {E : En} {c : Str} {i : Nat}
theorem isx_ok {sub : Str → Option Bool} {b : Bool} {m : En → Sto → Rs D} (hm : m E (S ++ T) = .ok (.ref (S.length + i)) (S ++ T)) (h : T[i]? = some (.ex c [])) (hb : sub c = some b) : m1 (fIsX sub) m E (S ++ T) = .ok (.bl b) (S ++ T) := by
  unfold m1
  rw [hm, bind_ok]
  unfold fIsX
  simp only [at_k, h, hb]
theorem disp2_ok {x y : Str} {m1 m2 : En → Sto → Rs D} {a b : D} {n : Nat} (h1 : m1 E (S ++ T) = .ok a (S ++ T)) (h2 : m2 E (S ++ T) = .ok b (S ++ T)) (hn : T.length = n) : mDisp [(mC (.str x), m1), (mC (.str y), m2)] E (S ++ T) = .ok (.ref (S.length + n)) (S ++ (T ++ [.dk (mergeD [] [(.inr x, a), (.inr y, b)])])) := by
  have e : dPairs [(mC (.str x), m1), (mC (.str y), m2)] E (S ++ T) = .ok [(.inr x, a), (.inr y, b)] (S ++ T) := by
    show (m1 E (S ++ T)).bind _ = _
    rw [h1, bind_ok]
    show ((m2 E (S ++ T)).bind _).bind _ = _
    rw [h2, bind_ok]
    rfl
  unfold mDisp
  rw [e, bind_ok, if_pos (by simp), List.append_assoc, List.length_append, hn]
theorem upd_ok {mo : En → Sto → Rs D} {t : En → Sto → Rs D} {j : Nat} {kvs more : List (Key × D)} {U : Sto} (h1 : mo E (S ++ T) = .ok (.ref (S.length + i)) (S ++ T)) (h0 : T[i]? = some (.dk kvs)) (h2 : t E (S ++ T) = .ok (.ref (S.length + j)) (S ++ U)) (h3 : U[i]? = some (.dk kvs)) (h4 : U[j]? = some (.dk more)) (hij : i ≠ j) (hl : kvs.length + more.length ≤ 1000) : mMethD fUpd mo (aCons t aNil) E (S ++ T) = .ok .non (S ++ U.set i (.dk (mergeD kvs more))) := by
  have hz : (1000 : Nat) ≤ sizeLine := by decide
  unfold mMethD
  rw [h1, bind_ok]
  have e : isDo (S ++ T) (.ref (S.length + i)) = true := by
    unfold isDo
    simp only [at_k, h0]
  rw [if_pos e, cons_ok h2 rfl, bind_ok]
  unfold fUpd
  simp only [at_k, h3, h4]
  rw [if_neg (by omega), if_pos (by omega), set_k]
theorem body_tst {vs : List Nat} {g : D → En → Sto → Rs En} {t : En → Sto → Rs Bool} {m : En → Sto → Rs D} {E E1 : En} {d y : D} {b : Bool} {S : Sto} (h1 : g d (wipeE vs E) S = .ok E1 S) (h2 : t E1 S = .ok b S) (h3 : m E1 S = .ok y S) : bodyL vs g t m E d S = .ok (if b then some y else none) S := by
  unfold bodyL
  rw [h1, bind_ok, h2, bind_ok]
  cases b
  · rfl
  · rw [if_pos rfl, h3]; rfl
theorem expr_ok {m : En → Sto → Rs D} {E : En} {S S1 : Sto} {d : D} (h : m E S = .ok d S1) : sExpr m E S = .ok (.nx E) S1 := by
  unfold sExpr; rw [h]; rfl
theorem tV_bl {m : En → Sto → Rs D} {E : En} {S S1 : Sto} {b : Bool} (h : m E S = .ok (.bl b) S1) : tV m E S = .ok b S1 := by
  unfold tV; rw [h]; rfl
/-- the words of a table of truths that are true -/
def okKv : Key × D → Bool
  | (.inr _, .bl _) => true
  | _ => false
theorem okKv_get {kv : Key × D} (h : okKv kv = true) : ∃ x b, kv = (.inr x, .bl b) := by
  match kv, h with
  | (.inr x, .bl b), _ => exact ⟨x, b, rfl⟩
theorem words_ok {kvs : List (Key × D)} (hk : kvs.all okKv = true) (hnd : (kvs.map (·.1)).Nodup) (h : T[i]? = some (.dk kvs)) (hl : kvs.length ≤ 1000) (hE : ∀ d U, mV 4 ((wipeE [6] E).set 6 (some d)) U = .ok (.ref (S.length + i)) U) (hE2 : ∀ U, mV 4 E U = .ok (.ref (S.length + i)) U) (hE3 : ∀ d U, mV 6 ((wipeE [6] E).set 6 (some d)) U = .ok d U) :
    mComp (iA (mV 4)) [6] (gN 6) (tV (m2 opIx (mV 4) (mV 6))) (mV 6) E (S ++ T) = .ok ((kvs.map fun kv => kD kv.1).filterMap fun d => match d with | .str x => (match getK kvs (.inr x) with | some (.bl true) => some (.str x) | _ => none) | _ => none) (S ++ T) := by
  have hz : (1000 : Nat) ≤ sizeLine := by decide
  have hn : i < T.length := (List.getElem?_eq_some_iff.mp h).1
  refine mComp_lock (n := S.length + i) (kvs := kvs) _ ?_ (by rw [at_k]; exact h) ?_ (by simp; omega)
  · show (mV 4 E (S ++ T)).bind aiOf = _
    rw [hE2, bind_ok]
    unfold aiOf
    simp only [at_k, h]
  · intro d hd
    obtain ⟨kv, hkv, rfl⟩ := List.mem_map.mp hd
    obtain ⟨x, b, rfl⟩ := okKv_get (List.all_eq_true.mp hk kv hkv)
    have hg : getK kvs (.inr x) = some (.bl b) := by
      unfold getK
      have : kvs.find? (fun kv => decide (kv.1 = .inr x)) = some (.inr x, .bl b) := by
        clear hd h hl hk hE hE2 hE3
        induction kvs with
        | nil => cases hkv
        | cons q r ih =>
          rw [List.map_cons, List.nodup_cons] at hnd
          rcases List.mem_cons.mp hkv with e | e
          · rw [← e]; simp
          · have : ¬ q.1 = .inr x := fun z => hnd.1 (by rw [z]; exact List.mem_map.mpr ⟨_, e, rfl⟩)
            rw [List.find?_cons_of_neg (by simpa using this)]
            exact ih hnd.2 e
      rw [this]; rfl
    have h2 : m2 opIx (mV 4) (mV 6) ((wipeE [6] E).set 6 (some (.str x))) ((S ++ T).set (S.length + i) (.fd kvs)) = .ok (.bl b) ((S ++ T).set (S.length + i) (.fd kvs)) :=
      m2_ok (hE _ _) (hE3 _ _) (ix_fd (by rw [set_k, at_k]; simp [hn]) rfl hg)
    show bodyL [6] (gN 6) (tV (m2 opIx (mV 4) (mV 6))) (mV 6) E (.str x) _ = _
    rw [body_tst rfl (tV_bl h2) (hE3 _ _)]
    simp only [kD, hg]
    cases b <;> rfl
end
/-! ### BadRule -/
abbrev dU (a b : Str) (x y : Bool) : List (Key × D) := mergeD [] [(.inr a, .bl x), (.inr b, .bl y)]
abbrev K9 : List (Key × D) := setK (mergeD (mergeD (mergeD (mergeD (dU "no instance" "no cell" false false) (dU "bad order" "bad plan" false false)) (dU "bad rule" "bad nest" true false)) (dU "bad layout" "bad size" false false)) (dU "no tiling" "no back" false false)) (.inr "no text") (.bl false)
abbrev T9 : Sto := [.ex "BadRule" [], .dk K9, .dk (dU "bad order" "bad plan" false false), .dk (dU "bad rule" "bad nest" true false), .dk (dU "bad layout" "bad size" false false), .dk (dU "no tiling" "no back" false false)]
theorem heard_bad {S : Sto} (hlow : Low S) : mHeard (okL ["BadRule"]) 7 h__law_heard (.exc "BadRule" [] S) S.length = .ok (.tup [.str "bad rule"]) S := by
  have hx : ∀ {E : En} {T : Sto} {l : List (Str × Bool)} {b : Bool} {r}, E = [none, some (.ref (S.length + 0)), none, none] ++ r → T[0]? = some (.ex "BadRule" []) → subL l "BadRule" = some b → m1 (fIsX (subL l)) (mV 1) E (S ++ T) = .ok (.bl b) (S ++ T) := by
    rintro E T l b r rfl h1 h2
    exact isx_ok rfl h1 h2
  have hr : ∃ S2, h__law_heard (eEx 7 S.length) (S ++ [.ex "BadRule" []]) = .ok (.rt (.tup [.str "bad rule"])) (S ++ S2) := by
    unfold h__law_heard
    refine ⟨T9 ++ [.lst [.str "bad rule"]], ?_⟩
    refine seq_ok (if_no (S1 := S ++ [.ex "BadRule" []]) rfl rfl) ?_
    refine seq_ok (asg_ok (disp2_ok (n := 1) (hx (r := [none, none, none]) rfl rfl rfl) (hx (r := [none, none, none]) rfl rfl rfl) rfl) (E1 := [none, some (.ref (S.length + 0)), none, none, some (.ref (S.length + 1)), none, none]) rfl) ?_
    have hy : ∀ {E : En} {T : Sto} {l : List (Str × Bool)} {b : Bool}, E = [none, some (.ref (S.length + 0)), none, none, some (.ref (S.length + 1)), none, none] → T[0]? = some (.ex "BadRule" []) → subL l "BadRule" = some b → m1 (fIsX (subL l)) (mV 1) E (S ++ T) = .ok (.bl b) (S ++ T) := by
      rintro E T l b rfl h1 h2
      exact isx_ok rfl h1 h2
    refine seq_ok (expr_ok (upd_ok (i := 1) (j := 2) rfl rfl (disp2_ok (n := 2) (hy rfl rfl rfl) (hy rfl rfl rfl) rfl) rfl rfl (by decide) (by decide))) ?_
    refine seq_ok (expr_ok (upd_ok (i := 1) (j := 3) rfl rfl (disp2_ok (n := 3) (hy rfl rfl rfl) (hy rfl rfl rfl) rfl) rfl rfl (by decide) (by decide))) ?_
    refine seq_ok (expr_ok (upd_ok (i := 1) (j := 4) rfl rfl (disp2_ok (n := 4) (hy rfl rfl rfl) (hy rfl rfl rfl) rfl) rfl rfl (by decide) (by decide))) ?_
    refine seq_ok (expr_ok (upd_ok (i := 1) (j := 5) rfl rfl (disp2_ok (n := 5) (hy rfl rfl rfl) (hy rfl rfl rfl) rfl) rfl rfl (by decide) (by decide))) ?_
    refine seq_ok (asg_ok (hy rfl rfl rfl) (gS_ok rfl rfl (set_dk (at_k (k := 1)) rfl (by decide)))) ?_
    rw [set_k]
    refine (congrArg (fun U => (sSeq _ _ _ (S ++ U))) (show _ = T9 from rfl)).trans ?_
    refine seq_ok (if_no (S1 := S ++ _) (by
      unfold tV
      rw [hy rfl rfl rfl]; rfl) rfl) ?_
    refine seq_ok (if_no (S1 := S ++ _) (by
      unfold tV
      rw [hy rfl rfl rfl]; rfl) rfl) ?_
    have hw := words_ok (S := S) (i := 1) (E := [none, some (.ref (S.length + 0)), none, none, some (.ref (S.length + 1)), none, none]) (T := T9) (kvs := K9) (by kernel_rfl) (by decide +kernel) (by rfl) (by decide +kernel) (fun _ _ => rfl) (fun _ => rfl) (fun _ _ => rfl)
    have hf : (K9.map fun kv => kD kv.1).filterMap (fun (d : D) => match d with | D.str x => (match getK K9 (.inr x) with | some (D.bl true) => some (D.str x) | _ => none) | _ => none) = [D.str "bad rule"] := by kernel_rfl
    rw [hf] at hw
    have ha := ad_ok hw
    rw [List.length_append, List.append_assoc] at ha
    refine seq_ok (asg_ok (E1 := [none, some (.ref (S.length + 0)), none, none, some (.ref (S.length + 1)), some (.ref (S.length + 6)), none]) ha rfl) ?_
    have h1 : tB (m2 opEq (mN fLen (aCons (mV 5) (aNil))) (mC (.int 1))) [none, some (.ref (S.length + 0)), none, none, some (.ref (S.length + 1)), some (.ref (S.length + 6)), none] (S ++ (T9 ++ [.lst [.str "bad rule"]])) = .ok true (S ++ (T9 ++ [.lst [.str "bad rule"]])) :=
      tB_ok (m2_ok (n1_ok rfl (len_lst (at_k (k := 6)))) rfl rfl)
    have h2 : tV (m1 (fIsX (subL [("BadRule", true)])) (mV 1)) [none, some (.ref (S.length + 0)), none, none, some (.ref (S.length + 1)), some (.ref (S.length + 6)), none] (S ++ (T9 ++ [.lst [.str "bad rule"]])) = .ok true (S ++ (T9 ++ [.lst [.str "bad rule"]])) :=
      tV_bl (isx_ok (i := 0) rfl rfl rfl)
    refine ret_ok ?_
    unfold mIfE
    rw [and_ok h1 h2, bind_ok, if_pos rfl]
    exact tup_ok (cons_ok (m2_ok rfl rfl (ix_lst (at_k (k := 6)) rfl)) rfl) (by decide)
  obtain ⟨S2, e⟩ := hr
  unfold mHeard
  simp only []
  rw [if_pos (by decide), e]
  exact gc_cut (by rfl) hlow
/-! ### the law -/
theorem law_moves_ok {tr : Tr} {room : Nat} {rule : Str} {S0 : Sto} (hlow : Low S0) (hl : tr.length ≤ 9000) (hr : 1 ≤ room) (hru : rule = "first" ∨ rule = "old" ∨ rule = "far") :
    m__law_moves [tD tr, .int (room : Nat), .str rule] S0 = .ok (.tup [.int ((movesR tr room rule).1 : Nat), .int ((movesR tr room rule).2 : Nat)]) S0 := by
  suffices h : Ok (m__law_moves [tD tr, .int (room : Nat), .str rule] S0) (fun d S => d = (.tup [.int ((movesR tr room rule).1 : Nat), .int ((movesR tr room rule).2 : Nat)]) ∧ S = S0) by
    obtain ⟨d, S, e, rfl, rfl⟩ := h.get
    exact e
  unfold m__law_moves b__law_moves
  refine ok_mdef ?_
  refine ws_seq (ws_asg (Ok.of (tup_ok (cons_ok (lst_ok (ds := []) rfl (by decide)) (cons_ok (lst_ok (ds := []) rfl (by decide)) (cons_ok (lst_ok (ds := []) rfl (by decide)) (cons_ok rfl (cons_ok rfl rfl))))) (by simp)) (Ok.of rfl ?_)))
  have a0 : At S0 (S0.length + 2) [] [] [] (S0 ++ [.lst []] ++ [.lst []] ++ [.lst []]) := ⟨⟨[.lst [], .lst [], .lst []], by simp⟩, Nat.le_refl _, by simp [List.getElem?_append], by simp [List.getElem?_append], by simp [List.getElem?_append]⟩
  refine ws_seq (ws_for (items := pairsN (tr.map eD)) (gd := fun _ => True) (fun i E S => ∃ d came used dirty pl li wr go be fa, E = EM tr room rule S0.length d (runN tr room rule i).2.1 (runN tr room rule i).2.2 pl li wr go be fa ∧ At S0 d came used dirty S ∧ Sm (B1 i) (runN tr room rule i).1 came used dirty) rfl ?_ (fun _ _ _ _ => trivial) ?_ ?_)
  · refine ⟨S0.length + 2, [], [], [], none, none, none, none, none, none, ?_, a0, ?_⟩
    · show _ = EM tr room rule S0.length (S0.length + 2) 0 0 none none none none none none
      simp only [EM, List.length_append, List.length_singleton]
      rfl
    · show Sm (B1 0) [] [] [] []
      exact ⟨List.nodup_nil, rfl, fun r hr => (List.not_mem_nil hr).elim, List.Pairwise.nil, List.Perm.nil, List.Pairwise.nil, List.nodup_nil, fun x => ⟨fun z => (List.not_mem_nil z).elim, fun ⟨r, hr, _⟩ => (List.not_mem_nil hr).elim⟩⟩
  · rintro i dd E S hi ⟨d, came, used, dirty, pl, li, wr, go, be, fa, rfl, a, hs⟩
    obtain ⟨x, hx, rfl⟩ := pairsN_get hi
    rw [List.getElem?_map] at hx
    cases hy : tr[i]? with
    | none => rw [hy] at hx; cases hx
    | some y =>
      rw [hy] at hx
      cases hx
      refine Ok.of (S := S) rfl ((lm_step hy a hs hl hr hru).mono ?_ (fun _ _ h => h))
      rintro E1 S1 ⟨d', came', used', dirty', pl, li, wr, go, be, fa, e, a', hs'⟩
      exact ⟨d', came', used', dirty', pl, li, wr, go, be, fa, e, a', hs'⟩
  · rintro E S ⟨d, came, used, dirty, pl, li, wr, go, be, fa, rfl, a, hs⟩
    have hlen : (pairsN (tr.map eD)).length = tr.length := by simp [pairsN]
    rw [hlen] at hs ⊢
    have hadd : ∀ S' : Sto, opAdd (.int ((runN tr room rule tr.length).2.2 : Nat)) (.int ((dirty.map D.int).length : Nat)) S' = .ok (.int ((movesR tr room rule).2 : Nat)) S' := fun S' => by
      rw [add_int, List.length_map, ← hs.count]; rfl
    refine ws_ret (Ok.of (tup_ok (cons_ok rfl (cons_ok (m2_ok rfl (n1_ok rfl (len_lst a.y)) (hadd _)) rfl)) (by simp)) ?_)
    obtain ⟨T, rfl⟩ := a.pre
    refine Ok.of (gc_cut rfl hlow) ⟨rfl, rfl⟩
theorem bad_rule {P : Addr} {tr : Tr} {room : Nat} {S0 : Sto} : m_moves_by P [tD tr, .int (room : Nat), .str "new"] S0 = .exc "BadRule" [] S0 := by
  unfold m_moves_by mDef b_moves_by
  have h : tB (m2 opNotIn (mV 2) (mC c_RULES)) (startE 13 [tD tr, .int (room : Nat), .str "new"]) S0 = .ok true S0 := by
    have e : opNotIn (.str "new") c_RULES S0 = .ok (.bl true) S0 := by rfl
    exact tB_ok (m2_ok rfl rfl e)
  unfold sSeq
  rw [if_yes h (r := .exc "BadRule" [] S0) rfl]
  rfl
abbrev EL (ns : List Int) (k ru tr ro : Option D) : En := [some (.rl ns), some (.ref 3), k, ru, tr, ro]
abbrev B2s (P Q : Addr) : Sto := [.tb P "goes.<locals>.<lambda>", .tb Q "law.<locals>.<lambda>"]
theorem ne_words {S : Sto} : opNe (.tup [.str "bad rule"]) (.tup [.str "bad rule"]) S = .ok (.bl false) S := by kernel_rfl
theorem turn_step {P Q : Addr} {c : Nat} {ns : List Int} {k ru tr ro : Option D} {S : Sto} {R : D → Sto → Prop} (h : Rdy (B2s P Q) S c) (hc : c ≤ 1000) :
    WS (w_law_2 P Q (EL ns k ru tr ro) S) (fun E' S' => (∃ k du tr ro, E' = EL ns k du tr ro) ∧ ∃ c', Rdy (B2s P Q) S' c' ∧ c' ≤ c + 100) R := by
  obtain ⟨t, S1, c1, e1, l1, ht, r1, hc1, _, _⟩ := a_trace_ok (ns := ns) (many := 24) (lines := 7) h (by omega) (by decide) (by decide) (by decide)
  obtain ⟨v, S2, e2, hv, r2, _, _⟩ := draw_at (ns := ns) (many := 5) r1 (by omega) (by decide) (by decide)
  obtain ⟨room, hroom⟩ : ∃ n, n = 1 + v := ⟨_, rfl⟩
  have hr : 1 ≤ room := by omega
  have ha : opAdd (.int 1) (.int (v : Nat)) S2 = .ok (.int (room : Nat)) S2 := by rw [add_int, hroom]; rfl
  have hT := r2.tb 0 (by simp)
  have hT1 := r2.tb 1 (by simp)
  unfold w_law_2
  refine ws_seq (ws_asg (Ok.of (tup_ok (cons_ok (call_ok rfl rfl e1) (cons_ok (m2_ok rfl (call_ok rfl rfl e2) ha) rfl)) (by simp)) (Ok.of (S := S2) (a := EL ns k ru (some (tD t)) (some (.int (room : Nat)))) rfl ?_)))
  refine ws_seq (ws_for (items := [.str "first", .str "old", .str "far"]) (gd := fun _ => True) (fun i E S => (∃ ru, E = EL ns k ru (some (tD t)) (some (.int (room : Nat)))) ∧ S = S2) rfl ⟨⟨_, rfl⟩, rfl⟩ (fun _ _ _ _ => trivial) ?_ ?_)
  · rintro i dd E S hi ⟨⟨ru, rfl⟩, rfl⟩
    have hru : ∃ rule, dd = .str rule ∧ (rule = "first" ∨ rule = "old" ∨ rule = "far") := by
      match i, hi with
      | 0, hi => exact ⟨_, (Option.some.inj hi).symm, .inl rfl⟩
      | 1, hi => exact ⟨_, (Option.some.inj hi).symm, .inr (.inl rfl)⟩
      | 2, hi => exact ⟨_, (Option.some.inj hi).symm, .inr (.inr rfl)⟩
    obtain ⟨rule, rfl, hru⟩ := hru
    refine Ok.of (S := S) (a := EL ns k (some (.str rule)) (some (tD t)) (some (.int (room : Nat)))) rfl ?_
    unfold w_law_4
    have g1 := moves_by_ok (P := P) (tr := t) (room := room) (rule := rule) hT r2.low (by omega) hr hru
    have g2 := law_moves_ok (tr := t) (room := room) (rule := rule) r2.low (by omega) hr hru
    refine ws_no (Ok.of (tB_ok (m2_ok (nk_ok rfl rfl ⟨rfl, rfl⟩ rfl g1) (call_ok rfl rfl g2) ne_self)) ⟨rfl, ws_nil ⟨⟨_, rfl⟩, rfl⟩⟩)
  · rintro E S ⟨⟨ru, rfl⟩, rfl⟩
    have hm : mLam Q "law.<locals>.<lambda>" 1 (okL ["BadRule"]) 7 h__law_heard (mN (mClX 3 (m_moves_by P)) (aCons (mV 4) (aCons (mV 5) (aCons (mC (.str "new")) (aNil))))) (EL ns k ru (some (tD t)) (some (.int (room : Nat)))) S = .ok (.tup [.str "bad rule"]) S := by
      have e : mN (mClX 3 (m_moves_by P)) (aCons (mV 4) (aCons (mV 5) (aCons (mC (.str "new")) (aNil)))) (EL ns k ru (some (tD t)) (some (.int (room : Nat)))) S = .exc "BadRule" [] S := bad_rule (P := P) (tr := t) (room := room)
      unfold mLam
      simp only [hT1]
      show (if Q = Q ∧ _ then _ else _) = _
      rw [if_pos ⟨rfl, rfl⟩, e]
      exact heard_bad r2.low
    refine ws_no (Ok.of (tB_ok (m2_ok hm (tup_ok rfl (by decide)) ne_words)) ⟨rfl, ws_nil ⟨⟨_, _, _, _, rfl⟩, c1 + 1, r2, by omega⟩⟩)
theorem plain : Plain := by
  intro P Q ns _ _
  obtain ⟨S1, e1, r1, len1⟩ := begun_ok (B := B2s P Q) (fun m => rfl)
  suffices h : Ok (m_law P Q [.rl ns] (B2s P Q)) (fun d _ => d = .bl true) by
    obtain ⟨d, S, e, rfl⟩ := h.get
    exact ⟨S, e⟩
  unfold m_law b_law l_0 l_1 l_2
  refine ok_mdef (ws_seq (ws_asg (Ok.of (call_ok rfl rfl e1) (Ok.of rfl ?_))))
  refine ws_seq (ws_for (items := rangeD 0 ((4 : Nat) : Int)) (gd := fun _ => True) (fun i E S' => (∃ k du tr ro, E = EL ns k du tr ro) ∧ ∃ c, Rdy (B2s P Q) S' c ∧ c ≤ 100 * i)
    (r1_at (t := aCons (mC (.int 4)) aNil) (n := 4) rfl (by decide)) ⟨⟨_, _, _, _, rfl⟩, 0, r1, by omega⟩ (fun _ _ _ _ => trivial) ?_ ?_)
  · rintro i dd E S' hi ⟨⟨k, du, tr, ro, rfl⟩, c, hr, hc⟩
    obtain ⟨hi3, rfl⟩ := range_get hi
    refine Ok.of rfl ((turn_step hr (by omega)).mono ?_ (fun _ _ h => h))
    rintro E S ⟨h1, c', r', hc'⟩
    exact ⟨h1, c', r', by omega⟩
  · rintro E S ⟨⟨k, du, tr, ro, rfl⟩, c, r, _⟩
    have hT := r.tb 0 (by simp)
    have g0 : m_moves_by P [.tup [], .int 3, .str "far"] S = .ok (.tup [.int 0, .int 0]) S := moves_by_ok (tr := []) (room := 3) hT r.low (by decide) (by decide) (.inr (.inr rfl))
    have he : ∀ S' : Sto, opEq (.tup [.int 0, .int 0]) (.tup [.int 0, .int 0]) S' = .ok (.bl true) S' := fun _ => rfl
    refine ws_ret (Ok.of (a := .bl true) (S := S) ?_ gc_all)
    exact m2_ok (call_ok (cons_ok (tup_ok (ds := []) rfl (by simp)) rfl) rfl g0) (tup_ok rfl (by decide)) (he _)
end K33
end M

open PySem PySem.W PySem.Calls PyProof.Rows
theorem PySem.Challenge.cw_bankloops_k33_rules_holds : PySem.Challenge.rw_bankloops_k33_rules.Holds := by
  w_on; o_law
  refine HandSHeadRun.head_any (r := OpenLaw.row PySem.Challenge.rw_bankloops_k33_rules) (q := view (OpenLaw.row PySem.Challenge.rw_bankloops_k33_rules).prog [26]) (H := M.K33.hk) (ob := M.K33.ob) (M := 6000) (loose := ["LoopError", "NoInstance", "NoCell", "BadOrder", "BadPlan", "BadRule", "TooMuch", "BadNest", "Broken", "BadLayout", "BadSize", "NoTiling", "NoBack", "NoText", "RULES", "next_use", "goes", "moves_by", "_law_heard", "_law_draw", "_law_begun", "_law_a_trace", "_law_moves"]) (d := HandSHeadRun.topDef (OpenLaw.row PySem.Challenge.rw_bankloops_k33_rules).prog 26) (kwd := []) M.K33.ob_eq
    (by kernel_rfl) (fun s => by kernel_rfl) M.K33.run (by kernel_rfl) (by kernel_rfl) (by kernel_rfl) (by rfl) (by first | assumption | decide +kernel) (by decide +kernel) ⟨rfl, rfl, rfl, rfl, rfl, by decide +kernel⟩ ?hw ?hc
  case hw => w_witness2
  case hc =>
    refine LamX.walk_ofTsE (l := PySem.Challenge.rw_bankloops_k33_rules) (n := 63) (k := 7) (x := "script") (CX := fun _ => L2.CX0) rfl (by decide) (by kernel_rfl) ⟨rfl, by decide, by decide⟩ ?F (fun _ _ _ _ _ z => z)
    intro w mg fa h Y G hmg0
    obtain ⟨K, KX, c⟩ := Y
    have hmg : mg ("law" : PySem.Str) = some (.ref fa) := by
      have e : (HandSHeadRun.topDef (OpenLaw.row PySem.Challenge.rw_bankloops_k33_rules).prog 26).name = ("law" : PySem.Str) := by kernel_rfl
      rw [← e]
      exact hmg0
    exact ⟨K, KX, M.K33.atM M.K33.plain KX G hmg c⟩
