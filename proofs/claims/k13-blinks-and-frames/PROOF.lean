import PyProof.Rows.All
import Wide.All
import OpenK.AllK
import Wide.FinOn
import HandS.ForMost
import HandS.EndTab
import HandS.IsInst
import HandS.Deep
import HandS.SortInts
import HandS.Style
import HandS.TupAny
import HandS.Wide
import HandS.Conv
import KE.KDictKeyed
import KE.KeyNested
import KE.KDictDisplayH
import KE.KDictWalk
import KE.SortKeyHeap
import HandS.Nested
import HandS.More
import KE.GoesEnum
import KE.GoesMore
import HandS.ExcValue
import HandS.Words
import HandS.SetFor
import HandS.SetKeys
import HandS.Small
import HandS.Codes
import PySem.Challenge.RW_everysky_k13_blinks_and_frames
set_option Elab.async false
set_option linter.all false
set_option maxRecDepth 100000
/-! DL0: data, the store of what may change, and how they lie in the abstract heap. -/
namespace DL
open PySem PySem.Spec PyProof.Rows L2

/-- a value as data: fl is a list that nobody changes any more, ref n the n-th object of the store -/
inductive D where
  | non | bl (b : Bool) | int (i : Int) | str (x : Str) | tup (ds : List D) | fl (ds : List D) | scr (ns : List Int) | ref (n : Nat)
/-- what may change: a list, a dict with plain keys, a dict whose keys are tuples, an instance; lk: a loop walks the dict -/
inductive Ob where
  | lst (ds : List D) | dct (lk : Bool) (kvs : List (Key × D)) | dctN (lk : Bool) (kvs : List (NestedKey × D)) | ins (c : Nat) (fs : List (Str × D))
abbrev Store := List Ob
/-- where the store's objects lie (ad, by number); hid: lists that are being made -/
structure Mp where
  ad : List Addr
  hid : List Addr
instance : Membership Addr Mp := ⟨fun m b => b ∈ m.ad ∨ b ∈ m.hid⟩
def Mp.app (m : Mp) (a : Addr) : Mp := ⟨m.ad ++ [a], m.hid⟩
theorem Mp.mem {m : Mp} {b : Addr} : b ∈ m ↔ b ∈ m.ad ∨ b ∈ m.hid := Iff.rfl

/-- a list of the written part -/
def KL (K : PySem.W.Frag) (a : Addr) (xs : List V) : Prop :=
  ∃ (o : Obj) (its : Array Value) (n : Nat), K.lookup a = some o ∧ o.cls = .type "list" ∧ o.dict = none ∧ o.data = .seq its n ∧ its.size ≤ sizeLine ∧ Vals xs its.toList
/-- a tuple that stands, or one of the written part -/
def TupAt (K : PySem.W.Frag) (H : Hp) (a : Addr) (xs : List V) : Prop := H a = some (.tup xs) ∨
  ∃ (o : Obj) (its : Array Value) (n : Nat), K.lookup a = some o ∧ o.cls = .type "tuple" ∧ o.data = .seq its n ∧ its.size ≤ sizeLine ∧ Vals xs its.toList
theorem TupAt.sq {K : PySem.W.Frag} {H : Hp} {a : Addr} {xs : List V} (h : TupAt K H a xs) : SqT K H a xs := h.imp .inl id
/-- the script: known to the object, or a list of the written part -/
def SqS (K : PySem.W.Frag) (m : Mp) (H : Hp) (a : Addr) (xs : List V) : Prop := (a ∉ m ∧ Rd H a (.lst xs)) ∨ KL K a xs
theorem SqS.sq {K : PySem.W.Frag} {m : Mp} {H : Hp} {a : Addr} {xs : List V} (h : SqS K m H a xs) : SqL K H a xs := h.imp (fun q => q.2) id
/-- a dict whose keys are tuples: its entries, each key with its tuple's address -/
def NDic (P : Program) (w : World) (a : Addr) (xs : List (NestedKey × Addr × V)) : HO := .ext fun h => xs.length ≤ sizeLine ∧ (a == sysModules) = false ∧
  ∃ ys : List (NestedKey × Addr × Value), Paired (fun (x : NestedKey × Addr × V) (y : NestedKey × Addr × Value) => x.1 = y.1 ∧ x.2.1 = y.2.1 ∧ RelV x.2.2 y.2.2) xs ys ∧
    ∃ o es ep, h.get? a = some o ∧ o.ExactDict ∧ o.data = .dict es ep ∧ es.toList = ys.map (entryOfKey (nestedKind P w)) ∧ (ys.map (·.1)).Nodup
/-- as it lies, or locked -/
def LkAt (lk : Bool) (H : Hp) (a : Addr) (u : HO) : Prop := match lk with
  | false => H a = some u
  | true => ∃ od, H a = some (.frz od u)
def unNK : NestedKey → D
  | .none => .non
  | .num i => .int i
  | .text x => .str x
  | .tup ks => .tup (unNKs ks)
where unNKs : List NestedKey → List D
  | [] => []
  | k :: ks => unNK k :: unNKs ks

mutual
def RepV (K : PySem.W.Frag) (m : Mp) (H : Hp) : D → V → Prop
  | .non, v => v = .non
  | .bl b, v => v = .bl b
  | .int i, v => v = .int i
  | .str x, v => v = .str x
  | .tup ds, v => ∃ a vs, v = .ref a ∧ TupAt K H a vs ∧ RepVs K m H ds vs
  | .fl ds, v => ∃ a vs, v = .ref a ∧ a ∉ m ∧ H a = some (.lst vs) ∧ RepVs K m H ds vs
  | .scr ns, v => ∃ a, v = .ref a ∧ SqS K m H a (ns.map V.int)
  | .ref n, v => ∃ a, m.ad[n]? = some a ∧ v = .ref a
def RepVs (K : PySem.W.Frag) (m : Mp) (H : Hp) : List D → List V → Prop
  | [], vs => vs = []
  | d :: ds, vs => ∃ v r, vs = v :: r ∧ RepV K m H d v ∧ RepVs K m H ds r
end

/-- nothing is there that lasts -/
def Nw (H : Hp) (b : Addr) : Prop := ∀ o, H b = some o → ∃ ps, o = .tbl ps
theorem Nw.of {H : Hp} {b : Addr} (h : H b = none) : Nw H b := fun o e => by rw [h] at e; cases e
/-- all but what m tells (and the tables of code objects) stays; m grows by new objects -/
structure Ext (m : Mp) (H : Hp) (m' : Mp) (H' : Hp) : Prop where
  pre : m.ad <+: m'.ad
  hid : ∀ b ∈ m.hid, b ∈ m'.hid
  new : ∀ b ∈ m', b ∈ m ∨ Nw H b
  keep : ∀ b o, H b = some o → b ∉ m.ad → (∀ ps, o ≠ .tbl ps) → H' b = some o
  tup : ∀ b xs, H b = some (.tup xs) → H' b = some (.tup xs)
  frz : ∀ b o u, H b = some (.frz o u) → H' b = some (.frz o u)

/-- the same but for the locks of what m tells -/
structure Ext0 (m : Mp) (H : Hp) (m' : Mp) (H' : Hp) : Prop where
  pre : m.ad <+: m'.ad
  new : ∀ b ∈ m', b ∈ m ∨ Nw H b
  keep : ∀ b o, H b = some o → b ∉ m → (∀ ps, o ≠ .tbl ps) → H' b = some o
  tup : ∀ b xs, H b = some (.tup xs) → H' b = some (.tup xs)
theorem Ext.z {m m' : Mp} {H H' : Hp} (e : Ext m H m' H') : Ext0 m H m' H' := ⟨e.pre, e.new, fun b o h hb => e.keep b o h fun z => hb (.inl z), e.tup⟩
section
variable {K : PySem.W.Frag} {m m' m'' : Mp} {H H' H'' : Hp} {d : D} {ds es : List D} {v : V} {vs ws : List V} {a b : Addr}

theorem Ext.refl : Ext m H m H := ⟨List.prefix_refl m.ad, fun _ h => h, fun _ h => .inl h, fun _ _ h _ _ => h, fun _ _ h => h, fun _ _ _ h => h⟩
theorem Ext.nmem (e : Ext m H m' H') {b : Addr} {o : HO} (h : H b = some o) (hb : b ∉ m) (ht : ∀ ps, o ≠ .tbl ps) : b ∉ m' := fun z => by
  rcases e.new b z with q | q
  · exact hb q
  · obtain ⟨ps, q⟩ := q o h; exact ht ps q
/-- trans; hx: what is hidden is no object of the store -/
theorem Ext.trans (e : Ext m H m' H') (f : Ext m' H' m'' H'') (hx : ∀ b ∈ m'.hid, b ∉ m'.ad) : Ext m H m'' H'' where
  pre := e.pre.trans f.pre
  hid := fun b h => f.hid b (e.hid b h)
  new := fun b hb => by
    rcases f.new b hb with q | q
    · exact e.new b q
    · by_cases hm : b ∈ m
      · exact .inl hm
      · refine .inr fun o h => ?_
        by_cases ht : ∃ ps, o = .tbl ps
        · exact ht
        · exact q o (e.keep b o h (fun z => hm (.inl z)) fun ps z => ht ⟨ps, z⟩)
  keep := fun b o h hb n => f.keep b o (e.keep b o h hb n) (fun z => by
    by_cases hm : b ∈ m
    · rcases hm with q | q
      · exact hb q
      · exact hx b (e.hid b q) z
    · exact e.nmem h hm n (.inl z)) n
  tup := fun b xs h => f.tup b xs (e.tup b xs h)
  frz := fun b o u h => f.frz b o u (e.frz b o u h)

theorem Ext0.nmem (e : Ext0 m H m' H') {b : Addr} {o : HO} (h : H b = some o) (hb : b ∉ m) (ht : ∀ ps, o ≠ .tbl ps) : b ∉ m' := fun z => by
  rcases e.new b z with q | q
  · exact hb q
  · obtain ⟨ps, q⟩ := q o h; exact ht ps q
theorem Ext0.sqT (e : Ext0 m H m' H') (h : TupAt K H a vs) : TupAt K H' a vs := h.imp (e.tup _ _) id
theorem Ext0.sqS (e : Ext0 m H m' H') (h : SqS K m H a vs) : SqS K m' H' a vs := by
  rcases h with ⟨hm, h | ⟨o, h⟩⟩ | h
  · exact .inl ⟨e.nmem h hm (fun ps z => by cases z), .inl (e.keep _ _ h hm (fun ps z => by cases z))⟩
  · exact .inl ⟨e.nmem h hm (fun ps z => by cases z), .inr ⟨o, e.keep _ _ h hm (fun ps z => by cases z)⟩⟩
  · exact .inr h
theorem pre_get {m m' : List Addr} (h : m <+: m') {n : Nat} {a : Addr} (e : m[n]? = some a) : m'[n]? = some a := by
  obtain ⟨t, rfl⟩ := h
  rw [List.getElem?_append_left (List.getElem?_eq_some_iff.mp e).1]; exact e
mutual
theorem RepV.ext0 (e : Ext0 m H m' H') : ∀ (d : D) (v : V), RepV K m H d v → RepV K m' H' d v
  | .non, v, h => h
  | .bl b, v, h => h
  | .int i, v, h => h
  | .str x, v, h => h
  | .tup ds, v, h => by
    obtain ⟨a, vs, h1, h2, h3⟩ := h
    exact ⟨a, vs, h1, e.sqT h2, RepVs.ext0 e ds vs h3⟩
  | .fl ds, v, h => by
    obtain ⟨a, vs, h1, h2, h3, h4⟩ := h
    exact ⟨a, vs, h1, e.nmem h3 h2 (fun ps z => by cases z), e.keep _ _ h3 h2 (fun ps z => by cases z), RepVs.ext0 e ds vs h4⟩
  | .scr ns, v, h => by
    obtain ⟨a, h1, h2⟩ := h
    exact ⟨a, h1, e.sqS h2⟩
  | .ref n, v, h => by
    obtain ⟨a, h1, h2⟩ := h
    exact ⟨a, pre_get e.pre h1, h2⟩
theorem RepVs.ext0 (e : Ext0 m H m' H') : ∀ (ds : List D) (vs : List V), RepVs K m H ds vs → RepVs K m' H' ds vs
  | [], vs, h => h
  | d :: ds, vs, h => by
    obtain ⟨v, r, h1, h2, h3⟩ := h
    exact ⟨v, r, h1, RepV.ext0 e d v h2, RepVs.ext0 e ds r h3⟩
end
theorem RepV.ext (e : Ext m H m' H') (d : D) (v : V) (h : RepV K m H d v) : RepV K m' H' d v := RepV.ext0 e.z d v h
theorem RepVs.ext (e : Ext m H m' H') (ds : List D) (vs : List V) (h : RepVs K m H ds vs) : RepVs K m' H' ds vs := RepVs.ext0 e.z ds vs h
theorem RepVs.nil : RepVs K m H [] [] := by unfold RepVs; rfl
theorem RepVs.cons (h : RepV K m H d v) (t : RepVs K m H ds vs) : RepVs K m H (d :: ds) (v :: vs) := by
  unfold RepVs; exact ⟨v, vs, rfl, h, t⟩
theorem RepVs.length : ∀ {ds : List D} {vs : List V}, RepVs K m H ds vs → vs.length = ds.length
  | [], vs, h => by unfold RepVs at h; subst h; rfl
  | d :: ds, vs, h => by
    unfold RepVs at h
    obtain ⟨v, r, rfl, _, h3⟩ := h
    rw [List.length_cons, List.length_cons, RepVs.length h3]
theorem RepVs.get : ∀ {ds : List D} {vs : List V} {i : Nat} {d : D}, RepVs K m H ds vs → ds[i]? = some d → ∃ v, vs[i]? = some v ∧ RepV K m H d v
  | [], vs, i, d, h, e => by simp at e
  | d :: ds, vs, 0, d', h, e => by
    unfold RepVs at h
    obtain ⟨v, r, rfl, h2, h3⟩ := h
    simp at e; subst e
    exact ⟨v, rfl, h2⟩
  | d :: ds, vs, i + 1, d', h, e => by
    unfold RepVs at h
    obtain ⟨v, r, rfl, h2, h3⟩ := h
    obtain ⟨w, h4, h5⟩ := RepVs.get (i := i) (d := d') h3 (by simpa using e)
    exact ⟨w, by simpa using h4, h5⟩
theorem RepVs.append : ∀ {ds es : List D} {vs ws : List V}, RepVs K m H ds vs → RepVs K m H es ws → RepVs K m H (ds ++ es) (vs ++ ws)
  | [], es, vs, ws, h, g => by unfold RepVs at h; subst h; exact g
  | d :: ds, es, vs, ws, h, g => by
    unfold RepVs at h
    obtain ⟨v, r, rfl, h2, h3⟩ := h
    exact RepVs.cons h2 (RepVs.append h3 g)
theorem RepVs.take : ∀ {ds : List D} {vs : List V} (n : Nat), RepVs K m H ds vs → RepVs K m H (ds.take n) (vs.take n)
  | _, _, 0, _ => RepVs.nil
  | [], vs, n + 1, h => by unfold RepVs at h; subst h; exact RepVs.nil
  | d :: ds, vs, n + 1, h => by
    unfold RepVs at h
    obtain ⟨v, r, rfl, h2, h3⟩ := h
    exact RepVs.cons h2 (RepVs.take n h3)
theorem RepVs.drop : ∀ {ds : List D} {vs : List V} (n : Nat), RepVs K m H ds vs → RepVs K m H (ds.drop n) (vs.drop n)
  | _, _, 0, h => h
  | [], vs, n + 1, h => by unfold RepVs at h; subst h; exact RepVs.nil
  | d :: ds, vs, n + 1, h => by
    unfold RepVs at h
    obtain ⟨v, r, rfl, h2, h3⟩ := h
    exact RepVs.drop n h3
theorem RepVs.set {d : D} {v : V} (q : RepV K m H d v) : ∀ {ds : List D} {vs : List V} (i : Nat), RepVs K m H ds vs → RepVs K m H (ds.set i d) (vs.set i v)
  | [], vs, i, h => by unfold RepVs at h; subst h; exact RepVs.nil
  | x :: ds, vs, 0, h => by
    unfold RepVs at h
    obtain ⟨w, r, rfl, h2, h3⟩ := h
    exact RepVs.cons q h3
  | x :: ds, vs, i + 1, h => by
    unfold RepVs at h
    obtain ⟨w, r, rfl, h2, h3⟩ := h
    exact RepVs.cons h2 (RepVs.set q i h3)
theorem RepVs.nil_iff (h : RepVs K m H ds vs) : vs = [] ↔ ds = [] := by
  have := h.length
  rw [← List.length_eq_zero_iff, ← List.length_eq_zero_iff, this]

/-- the dict's entries -/
def RepKs (K : PySem.W.Frag) (m : Mp) (H : Hp) (kvs : List (Key × D)) (kws : List (Key × V)) : Prop :=
  kvs.map (·.1) = kws.map (·.1) ∧ RepVs K m H (kvs.map (·.2)) (kws.map (·.2))
def RepFs (K : PySem.W.Frag) (m : Mp) (H : Hp) (fs : List (Str × D)) (ws : List (Str × V)) : Prop :=
  fs.map (·.1) = ws.map (·.1) ∧ RepVs K m H (fs.map (·.2)) (ws.map (·.2))
def RepNs (K : PySem.W.Frag) (m : Mp) (H : Hp) (kvs : List (NestedKey × D)) (xs : List (NestedKey × Addr × V)) : Prop :=
  kvs.map (·.1) = xs.map (·.1) ∧ RepVs K m H (kvs.map fun kv => unNK kv.1) (xs.map fun x => .ref x.2.1) ∧ RepVs K m H (kvs.map (·.2)) (xs.map fun x => x.2.2) ∧ ∀ kv ∈ kvs, kv.1.depth ≤ 8
theorem RepKs.ext0 {kvs : List (Key × D)} {kws : List (Key × V)} (e : Ext0 m H m' H') (h : RepKs K m H kvs kws) : RepKs K m' H' kvs kws := ⟨h.1, h.2.ext0 e⟩
theorem RepFs.ext0 {kvs : List (Str × D)} {kws : List (Str × V)} (e : Ext0 m H m' H') (h : RepFs K m H kvs kws) : RepFs K m' H' kvs kws := ⟨h.1, h.2.ext0 e⟩
theorem RepNs.ext0 {kvs : List (NestedKey × D)} {xs : List (NestedKey × Addr × V)} (e : Ext0 m H m' H') (h : RepNs K m H kvs xs) : RepNs K m' H' kvs xs := ⟨h.1, h.2.1.ext0 e, h.2.2.1.ext0 e, h.2.2.2⟩
end

/-- what is fixed through the law: the program, the world, the written part, the classes by number, the tables of code objects -/
structure Wd where
  P : Program
  w : World
  K : PySem.W.Frag
  C : Nat → Option Addr
  T : List (Addr × Str)
def RelO (W : Wd) (m : Mp) (H : Hp) (a : Addr) : Ob → Prop
  | .lst ds => ∃ vs, H a = some (.lst vs) ∧ RepVs W.K m H ds vs
  | .dct lk kvs => ∃ kws, LkAt lk H a (.dK kws) ∧ RepKs W.K m H kvs kws
  | .dctN lk kvs => ∃ xs, LkAt lk H a (NDic W.P W.w a xs) ∧ RepNs W.K m H kvs xs
  | .ins c fs => ∃ ca dx ws, W.C c = some ca ∧ H a = some (.ins ca dx ws) ∧ RepFs W.K m H fs ws
theorem codeO_ne_ndic {P : Program} {w : World} {c : Addr} {q : Str} {xs : List (NestedKey × Addr × V)} (h : LamX.CodeO c q = NDic P w c xs) : False := by
  unfold LamX.CodeO NDic at h
  have h2 := HO.ext.inj h
  let h0 : Heap := { objs := (Array.replicate c (default : Obj)).push { cls := .none, data := .fields #[.none, .str q 0] } }
  have g : h0.get? c = some { cls := .none, data := .fields #[.none, .str q 0] } := by
    unfold Heap.get?
    have e : h0.objs[c]? = some { cls := .none, data := .fields #[.none, .str q 0] } := by
      show ((Array.replicate c (default : Obj)).push _)[c]? = _
      rw [Array.getElem?_push]
      simp
    rw [e]
  have l : ∃ (oc : Obj) (vs : Array Value) (t : Tok), h0.get? c = some oc ∧ oc.data = .fields vs ∧ vs[1]? = some (.str q t) := ⟨_, _, 0, g, rfl, rfl⟩
  have r := congrFun h2 h0
  obtain ⟨_, _, ys, _, o, es, ep, e1, _, e2, _⟩ := r.mp l
  rw [g] at e1
  cases e1
  cases e2
section
variable {W : Wd} {m m' : Mp} {H H' : Hp} {a : Addr} {o : Ob}
theorem RelO.ext0 (e : Ext0 m H m' H') (q : H' a = H a) (h : RelO W m H a o) : RelO W m' H' a o := by
  have lk : ∀ {lk : Bool} {u : HO}, LkAt lk H a u → LkAt lk H' a u := fun {lk u} z => by
    cases lk with
    | false => exact q.trans z
    | true => obtain ⟨od, z⟩ := z; exact ⟨od, q.trans z⟩
  cases o with
  | lst ds => obtain ⟨vs, h1, h2⟩ := h; exact ⟨vs, q.trans h1, h2.ext0 e⟩
  | dct l kvs => obtain ⟨kws, h1, h2⟩ := h; exact ⟨kws, lk h1, h2.ext0 e⟩
  | dctN l kvs => obtain ⟨kws, h1, h2⟩ := h; exact ⟨kws, lk h1, h2.ext0 e⟩
  | ins c fs => obtain ⟨ca, dx, ws, h0, h1, h2⟩ := h; exact ⟨ca, dx, ws, h0, q.trans h1, h2.ext0 e⟩
theorem RelO.ext (e : Ext m H m' H') (q : H' a = H a) (h : RelO W m H a o) : RelO W m' H' a o := RelO.ext0 e.z q h
theorem RelO.mut (h : RelO W m H a o) : ∃ u, H a = some u ∧ (∀ ps, u ≠ .tbl ps) ∧ (∀ xs, u ≠ .tup xs) ∧ ∀ q, u ≠ LamX.CodeO a q := by
  cases o with
  | lst ds => obtain ⟨vs, h1, h2⟩ := h; exact ⟨_, h1, (fun _ z => by cases z), (fun _ z => by cases z), fun _ z => by unfold LamX.CodeO at z; cases z⟩
  | dct l kvs =>
    obtain ⟨kws, h1, h2⟩ := h
    cases l with
    | false => exact ⟨_, h1, (fun _ z => by cases z), (fun _ z => by cases z), fun _ z => by unfold LamX.CodeO at z; cases z⟩
    | true => obtain ⟨od, h1⟩ := h1; exact ⟨_, h1, (fun _ z => by cases z), (fun _ z => by cases z), fun _ z => by unfold LamX.CodeO at z; cases z⟩
  | dctN l kvs =>
    obtain ⟨kws, h1, h2⟩ := h
    cases l with
    | false => exact ⟨_, h1, (fun _ z => by unfold NDic at z; cases z), (fun _ z => by unfold NDic at z; cases z), fun _ z => codeO_ne_ndic z.symm⟩
    | true => obtain ⟨od, h1⟩ := h1; exact ⟨_, h1, (fun _ z => by cases z), (fun _ z => by cases z), fun _ z => by unfold LamX.CodeO at z; cases z⟩
  | ins c fs => obtain ⟨ca, dx, ws, h0, h1, h2⟩ := h; exact ⟨_, h1, (fun _ z => by cases z), (fun _ z => by cases z), fun _ z => by unfold LamX.CodeO at z; cases z⟩
end

/-- what may be hidden: an object that is being made -/
def Hidable (b : Addr) (u : HO) : Prop := (∀ ps, u ≠ .tbl ps) ∧ (∀ xs, u ≠ .tup xs) ∧ (∀ q, u ≠ LamX.CodeO b q) ∧ ∀ o x, u ≠ .frz o x
theorem Hidable.lst (b : Addr) (xs : List V) : Hidable b (.lst xs) := ⟨(fun _ z => by cases z), (fun _ z => by cases z), (fun _ z => by unfold LamX.CodeO at z; cases z), fun _ _ z => by cases z⟩
theorem Hidable.dK (b : Addr) (xs : List (Key × V)) : Hidable b (.dK xs) := ⟨(fun _ z => by cases z), (fun _ z => by cases z), (fun _ z => by unfold LamX.CodeO at z; cases z), fun _ _ z => by cases z⟩
theorem Hidable.ndic (P : Program) (w : World) (b : Addr) (xs : List (NestedKey × Addr × V)) : Hidable b (NDic P w b xs) := ⟨(fun _ z => by unfold NDic at z; cases z), (fun _ z => by unfold NDic at z; cases z), (fun _ z => codeO_ne_ndic z.symm), fun _ _ z => by unfold NDic at z; cases z⟩
structure RelS (W : Wd) (S : Store) (m : Mp) (H : Hp) : Prop where
  len : m.ad.length = S.length
  nd : m.ad.Nodup
  hid : ∀ b ∈ m.hid, b ∉ m.ad ∧ ∃ u, H b = some u ∧ Hidable b u
  ob : ∀ (n : Nat) (o : Ob) (a : Addr), S[n]? = some o → m.ad[n]? = some a → RelO W m H a o
  tabs : LamX.Tabs W.T H
section
variable {W : Wd} {S S' : Store} {m m' m'' : Mp} {H H' H'' : Hp} {a : Addr} {o : Ob} {n : Nat}
theorem RelS.hx (r : RelS W S m H) : ∀ b ∈ m.hid, b ∉ m.ad := fun b h => (r.hid b h).1
theorem Ext.tr (e : Ext m H m' H') (r : RelS W S m' H') (f : Ext m' H' m'' H'') : Ext m H m'' H'' := e.trans f r.hx
theorem RelS.at (r : RelS W S m H) (h : S[n]? = some o) : ∃ a, m.ad[n]? = some a ∧ RelO W m H a o := by
  have hn : n < m.ad.length := by rw [r.len]; exact (List.getElem?_eq_some_iff.mp h).1
  exact ⟨m.ad[n], List.getElem?_eq_getElem hn, r.ob n o _ h (List.getElem?_eq_getElem hn)⟩
theorem RelS.of_mem (r : RelS W S m H) (h : a ∈ m.ad) : ∃ u, H a = some u ∧ (∀ ps, u ≠ .tbl ps) ∧ (∀ xs, u ≠ .tup xs) ∧ ∀ q, u ≠ LamX.CodeO a q := by
  obtain ⟨n, hn, e⟩ := List.getElem_of_mem h
  have hS : n < S.length := by rw [← r.len]; exact hn
  exact (r.ob n S[n] a (List.getElem?_eq_getElem hS) (by rw [List.getElem?_eq_getElem hn, e])).mut
theorem RelS.of_mem' (r : RelS W S m H) (h : a ∈ m) : ∃ u, H a = some u ∧ (∀ ps, u ≠ .tbl ps) ∧ (∀ xs, u ≠ .tup xs) ∧ ∀ q, u ≠ LamX.CodeO a q := by
  rcases h with h | h
  · exact r.of_mem h
  · obtain ⟨_, u, e, h1, h2, h3, _⟩ := r.hid a h
    exact ⟨u, e, h1, h2, h3⟩
theorem RelS.fresh (r : RelS W S m H) (h : H a = none) : a ∉ m := fun z => by
  obtain ⟨u, q, _⟩ := r.of_mem' z
  rw [h] at q; cases q
/-- an object that the store does not tell is laid -/
theorem Ext.laid (h : H a = none) (o : HO) : Ext m H m (upd H a o) :=
  ⟨List.prefix_refl m.ad, fun _ h => h, fun _ h => .inl h, fun b u q _ _ => by rw [upd_ne (ne_of_none q h)]; exact q, fun b xs q => by rw [upd_ne (ne_of_none q h)]; exact q, fun b ob u q => by rw [upd_ne (ne_of_none q h)]; exact q⟩
theorem RelS.laid (r : RelS W S m H) (h : H a = none) (o : HO) : RelS W S m (upd H a o) where
  len := r.len
  nd := r.nd
  hid := fun b hb => let ⟨h1, xs, h2, h3⟩ := r.hid b hb; ⟨h1, xs, by rw [upd_ne (ne_of_none h2 h)]; exact h2, h3⟩
  ob := fun n u b h1 h2 => (r.ob n u b h1 h2).ext (Ext.laid h o) (upd_ne (fun z => r.fresh h (by rw [← z]; exact .inl (List.mem_of_getElem? h2))))
  tabs := r.tabs.ext fun b u q => by rw [upd_ne (ne_of_none q h)]; exact q
/-- a new object of the store -/
theorem Ext.made (r : RelS W S m H) (h : H a = none) (o : HO) : Ext m H (m.app a) (upd H a o) :=
  { Ext.laid (m := m) h o with
    pre := List.prefix_append m.ad [a]
    new := fun b hb => by
      rcases hb with hb | hb
      · rcases List.mem_append.mp hb with q | q
        · exact .inl (.inl q)
        · rw [List.mem_singleton.mp q]; exact .inr (.of h)
      · exact .inl (.inr hb) }
theorem RelS.made (r : RelS W S m H) (h : H a = none) {u : HO} (hr : RelO W (m.app a) (upd H a u) a o) : RelS W (S ++ [o]) (m.app a) (upd H a u) where
  len := by unfold Mp.app; rw [List.length_append, List.length_append, r.len]; rfl
  nd := by
    unfold Mp.app
    rw [List.nodup_append]
    exact ⟨r.nd, by simp, fun x hx y hy => by rw [List.mem_singleton.mp hy]; exact fun z => r.fresh h (by rw [← z]; exact .inl hx)⟩
  hid := fun b hb => by
    obtain ⟨h1, xs, h2, h3⟩ := r.hid b hb
    refine ⟨fun z => ?_, xs, by rw [upd_ne (ne_of_none h2 h)]; exact h2, h3⟩
    rcases List.mem_append.mp z with q | q
    · exact h1 q
    · exact ne_of_none h2 h (List.mem_singleton.mp q)
  ob := fun n x b h1 h2 => by
    unfold Mp.app at h2
    by_cases hn : n < S.length
    · rw [List.getElem?_append_left hn] at h1
      rw [List.getElem?_append_left (by rw [r.len]; exact hn)] at h2
      exact (r.ob n x b h1 h2).ext (Ext.made r h u) (upd_ne (fun z => r.fresh h (by rw [← z]; exact .inl (List.mem_of_getElem? h2))))
    · have e : n = S.length := by
        have := (List.getElem?_eq_some_iff.mp h1).1
        rw [List.length_append, List.length_singleton] at this
        omega
      subst e
      rw [List.getElem?_append_right (Nat.le_refl _), Nat.sub_self] at h1
      rw [← r.len, List.getElem?_append_right (Nat.le_refl _), Nat.sub_self] at h2
      simp at h1 h2
      subst h1; subst h2
      exact hr
  tabs := r.tabs.ext fun b u q => by rw [upd_ne (ne_of_none q h)]; exact q
/-- an object of the store (or a hidden list) is changed, locked or unlocked -/
theorem Ext0.putM (r : RelS W S m H) (ha : a ∈ m) (u : HO) : Ext0 m H m (upd H a u) := by
  obtain ⟨w, q, q1, q2, q3⟩ := r.of_mem' ha
  refine ⟨List.prefix_refl m.ad, fun _ h => .inl h, fun b x e hb _ => ?_, fun b xs e => ?_⟩
  · rw [upd_ne (fun z => hb (by rw [z]; exact ha))]; exact e
  · rw [upd_ne (fun z => ?_)]; exact e
    subst z; rw [q] at e; exact q2 xs (Option.some.inj e)
theorem Ext0.put (r : RelS W S m H) (hm : m.ad[n]? = some a) (u : HO) : Ext0 m H m (upd H a u) := Ext0.putM r (.inl (List.mem_of_getElem? hm)) u
/-- an object of the store is changed -/
theorem Ext.put (r : RelS W S m H) (hm : m.ad[n]? = some a) (hf : ∀ o x, H a ≠ some (.frz o x)) (u : HO) : Ext m H m (upd H a u) := by
  have ha : a ∈ m.ad := List.mem_of_getElem? hm
  obtain ⟨w, q, q1, q2, q3⟩ := r.of_mem ha
  refine ⟨List.prefix_refl m.ad, fun _ h => h, fun _ h => .inl h, fun b x e hb _ => ?_, fun b xs e => ?_, fun b ob x e => ?_⟩
  · rw [upd_ne (fun z => hb (by rw [z]; exact ha))]; exact e
  · rw [upd_ne (fun z => ?_)]; exact e
    subst z; rw [q] at e; exact q2 xs (Option.some.inj e)
  · rw [upd_ne (fun z => hf ob x (by rw [← z]; exact e))]; exact e
theorem tabs_put (r : RelS W S m H) (ha : a ∈ m) (u : HO) : LamX.Tabs W.T (upd H a u) := fun p hp => by
    obtain ⟨ps, h1, h2, h3⟩ := r.tabs p hp
    obtain ⟨w, q, q1, q2, q3⟩ := r.of_mem' ha
    have np : p.1 ≠ a := fun z => by rw [z, q] at h1; exact q1 ps (Option.some.inj h1)
    refine ⟨ps, by rw [upd_ne np]; exact h1, h2, fun pos cv hc => ?_⟩
    obtain ⟨c, e1, e2⟩ := h3 pos cv hc
    refine ⟨c, e1, ?_⟩
    rw [upd_ne (fun z => ?_)]; exact e2
    -- a code object is no object of the store
    subst z
    rw [q] at e2
    exact q3 _ (Option.some.inj e2)
theorem RelS.put (r : RelS W S m H) (hm : m.ad[n]? = some a) {u : HO} (hr : RelO W m (upd H a u) a o) : RelS W (S.set n o) m (upd H a u) where
  len := by rw [List.length_set]; exact r.len
  nd := r.nd
  hid := fun b hb => by
    obtain ⟨h1, xs, h2, h3⟩ := r.hid b hb
    exact ⟨h1, xs, by rw [upd_ne (fun z => h1 (by rw [z]; exact List.mem_of_getElem? hm))]; exact h2, h3⟩
  ob := fun k x b h1 h2 => by
    by_cases hk : k = n
    · subst hk
      rw [hm] at h2
      obtain rfl := Option.some.inj h2
      have hl : k < S.length := by
        have := (List.getElem?_eq_some_iff.mp h1).1
        rw [List.length_set] at this; exact this
      rw [List.getElem?_set_self hl] at h1
      obtain rfl := Option.some.inj h1
      exact hr
    · rw [List.getElem?_set_ne (Ne.symm hk)] at h1
      refine (r.ob k x b h1 h2).ext0 (Ext0.put r hm u) (upd_ne fun z => hk ?_)
      subst z
      have h3 := (List.getElem?_eq_some_iff.mp hm)
      have h4 := (List.getElem?_eq_some_iff.mp h2)
      obtain ⟨l3, e3⟩ := h3
      obtain ⟨l4, e4⟩ := h4
      exact (List.getElem_inj r.nd).mp (e4.trans e3.symm)
  tabs := tabs_put r (.inl (List.mem_of_getElem? hm)) u

/-! ### a list that is being made -/
/-- the list at a is hidden, from here on -/
def Mp.hide (m : Mp) (a : Addr) : Mp := ⟨m.ad, a :: m.hid⟩
theorem Ext.hide (h : H a = none) (u : HO) : Ext m H (m.hide a) (upd H a u) :=
  { Ext.laid (m := m) h u with
    hid := fun b q => List.mem_cons_of_mem _ q
    new := fun b hb => by
      rcases hb with q | q
      · exact .inl (.inl q)
      · rcases List.mem_cons.mp q with z | z
        · rw [z]; exact .inr (.of h)
        · exact .inl (.inr z) }
theorem RelS.hide (r : RelS W S m H) (h : H a = none) {u : HO} (hu : Hidable a u) : RelS W S (m.hide a) (upd H a u) where
  len := r.len
  nd := r.nd
  hid := fun b hb => by
    rcases List.mem_cons.mp hb with z | z
    · rw [z]; exact ⟨fun q => r.fresh h (.inl q), u, upd_same, hu⟩
    · obtain ⟨h1, ys, h2, h3⟩ := r.hid b z
      exact ⟨h1, ys, by rw [upd_ne (ne_of_none h2 h)]; exact h2, h3⟩
  ob := fun n x b h1 h2 => (r.ob n x b h1 h2).ext (Ext.hide h u) (upd_ne (fun z => r.fresh h (by rw [← z]; exact .inl (List.mem_of_getElem? h2))))
  tabs := (r.laid h u).tabs
/-- a hidden object is changed -/
theorem RelS.grow (r : RelS W S m H) (ha : a ∈ m.hid) {u : HO} (hu : Hidable a u) : RelS W S m (upd H a u) where
  len := r.len
  nd := r.nd
  hid := fun b hb => by
    obtain ⟨h1, ys, h2, h3⟩ := r.hid b hb
    by_cases z : b = a
    · rw [z]; exact ⟨by rw [← z]; exact h1, u, upd_same, hu⟩
    · exact ⟨h1, ys, by rw [upd_ne z]; exact h2, h3⟩
  ob := fun k x b h1 h2 => (r.ob k x b h1 h2).ext0 (Ext0.putM r (.inr ha) _) (upd_ne fun z => (r.hid a ha).1 (by rw [← z]; exact List.mem_of_getElem? h2))
  tabs := tabs_put r (.inr ha) _
/-- fewer are hidden -/
def Mp.only (m : Mp) (l : List Addr) : Mp := ⟨m.ad, l⟩
theorem Ext0.only {l : List Addr} (h : ∀ b ∈ l, b ∈ m.hid) : Ext0 m H (m.only l) H :=
  ⟨List.prefix_refl m.ad, fun b q => .inl (q.imp id (h b)), fun _ _ q _ _ => q, fun _ _ q => q⟩
theorem RelS.only (r : RelS W S m H) {l : List Addr} (h : ∀ b ∈ l, b ∈ m.hid) : RelS W S (m.only l) H where
  len := r.len
  nd := r.nd
  hid := fun b q => r.hid b (h b q)
  ob := fun n u b h1 h2 => (r.ob n u b h1 h2).ext0 (Ext0.only h) rfl
  tabs := r.tabs
/-- a hidden object becomes the store's last -/
def Mp.show (m : Mp) (a : Addr) (l : List Addr) : Mp := ⟨m.ad ++ [a], l⟩
theorem Ext0.show {l : List Addr} (r : RelS W S m H) (ha : a ∈ m.hid) (h : ∀ b ∈ l, b ∈ m.hid) (u : HO) : Ext0 m H (m.show a l) (upd H a u) := by
  have e := Ext0.putM r (.inr ha) u
  refine ⟨List.prefix_append m.ad [a], fun b hb => ?_, e.keep, e.tup⟩
  rcases hb with q | q
  · rcases List.mem_append.mp q with z | z
    · exact .inl (.inl z)
    · rw [List.mem_singleton.mp z]; exact .inl (.inr ha)
  · exact .inl (.inr (h b q))
theorem RelS.show (r : RelS W S m H) (ha : a ∈ m.hid) {l : List Addr} (h : ∀ b ∈ l, b ∈ m.hid) (hl : a ∉ l) {u : HO} (hr : RelO W (m.show a l) (upd H a u) a o) : RelS W (S ++ [o]) (m.show a l) (upd H a u) where
  len := by unfold Mp.show; rw [List.length_append, List.length_append, r.len]; rfl
  nd := by
    unfold Mp.show
    rw [List.nodup_append]
    exact ⟨r.nd, by simp, fun x hx y hy => by rw [List.mem_singleton.mp hy]; exact fun z => (r.hid a ha).1 (by rw [← z]; exact hx)⟩
  hid := fun b hb => by
    obtain ⟨h1, v, h2, h3⟩ := r.hid b (h b hb)
    have hb : b ∈ l := hb
    have hba : b ≠ a := fun z => hl (by rw [← z]; exact hb)
    refine ⟨fun z => ?_, v, by rw [upd_ne hba]; exact h2, h3⟩
    rcases List.mem_append.mp z with q | q
    · exact h1 q
    · exact hba (List.mem_singleton.mp q)
  ob := fun n x b h1 h2 => by
    unfold Mp.show at h2
    by_cases hn : n < S.length
    · rw [List.getElem?_append_left hn] at h1
      rw [List.getElem?_append_left (by rw [r.len]; exact hn)] at h2
      exact (r.ob n x b h1 h2).ext0 (Ext0.show r ha h u) (upd_ne (fun z => (r.hid a ha).1 (by rw [← z]; exact List.mem_of_getElem? h2)))
    · have e : n = S.length := by
        have := (List.getElem?_eq_some_iff.mp h1).1
        rw [List.length_append, List.length_singleton] at this
        omega
      subst e
      rw [List.getElem?_append_right (Nat.le_refl _), Nat.sub_self] at h1
      rw [← r.len, List.getElem?_append_right (Nat.le_refl _), Nat.sub_self] at h2
      simp at h1 h2
      subst h1; subst h2
      exact hr
  tabs := tabs_put r (.inr ha) _
/-- what came after m1 is shown -/
theorem Ext.show {m1 : Mp} {H1 : Hp} (e : Ext m1 H1 m H) (h : H1 a = none) (u : HO) : Ext m1 H1 (m.show a m1.hid) (upd H a u) where
  pre := e.pre.trans (List.prefix_append m.ad [a])
  hid := fun b q => q
  new := fun b hb => by
    rcases hb with q | q
    · rcases List.mem_append.mp q with z | z
      · exact e.new b (.inl z)
      · rw [List.mem_singleton.mp z]; exact .inr (.of h)
    · exact .inl (.inr q)
  keep := fun b o q hb hn => by rw [upd_ne (ne_of_none q h)]; exact e.keep b o q hb hn
  tup := fun b xs q => by rw [upd_ne (ne_of_none q h)]; exact e.tup b xs q
  frz := fun b od x q => by rw [upd_ne (ne_of_none q h)]; exact e.frz b od x q
end
end DL

set_option Elab.async false
set_option linter.all false
set_option maxRecDepth 100000
/-! DL1: the constructs by places (IR), what they mean over data, and when a text of the model is such. -/
namespace DL
open PySem PySem.Spec PyProof.Rows L2

/-! ### operations over data -/
def seqOf (S : Store) : D → Option (List D)
  | .tup ds => some ds
  | .fl ds => some ds
  | .scr ns => some (ns.map .int)
  | .ref n => match S[n]? with
    | some (.lst ds) => some ds
    | _ => none
  | _ => none
def keyOf : D → Option Key
  | .int i => some (.inl i)
  | .str x => some (.inr x)
  | _ => none
def unKey : Key → D
  | .inl i => .int i
  | .inr x => .str x
mutual
/-- a key that is a tuple (no bools in it) -/
def toNK : D → Option NestedKey
  | .non => some .none
  | .int i => some (.num i)
  | .str x => some (.text x)
  | .tup ds => match toNKs ds with | some ks => some (.tup ks) | none => none
  | _ => none
def toNKs : List D → Option (List NestedKey)
  | [] => some []
  | d :: ds => match toNK d, toNKs ds with | some k, some ks => some (k :: ks) | _, _ => none
end
def keyN (d : D) : Option NestedKey := match d with
  | .tup _ => match toNK d with
    | some k => if k.depth ≤ 8 then some k else none
    | none => none
  | _ => none
section
variable {κ : Type} [DecidableEq κ]
def lookD (kvs : List (κ × D)) (k : κ) : Option D := (kvs.find? fun kv => decide (kv.1 = k)).map (·.2)
def putD (kvs : List (κ × D)) (k : κ) (v : D) : List (κ × D) :=
  if (kvs.any fun kv => decide (kv.1 = k)) = true then kvs.map (fun kv => if kv.1 = k then (kv.1, v) else kv) else kvs ++ [(k, v)]
def dropD (kvs : List (κ × D)) (k : κ) : List (κ × D) := kvs.filter fun kv => decide (kv.1 ≠ k)
end
mutual
/-- data without references, as the model's data -/
def toPy : D → Option PyData
  | .non => some .none
  | .bl b => some (.bool b)
  | .int i => some (.int i)
  | .str x => some (.str x)
  | .tup ds => match toPys ds with | some xs => some (.tuple xs) | none => none
  | .fl ds => match toPys ds with | some xs => some (.list xs) | none => none
  | .scr ns => some (.list (ns.map .int))
  | .ref _ => none
def toPys : List D → Option (List PyData)
  | [] => some []
  | d :: ds => match toPy d, toPys ds with | some x, some xs => some (x :: xs) | _, _ => none
end
mutual
/-- no reference to the n-th object of the store or a later one -/
def below (n : Nat) : D → Bool
  | .tup ds => belows n ds
  | .fl ds => belows n ds
  | .ref k => decide (k < n)
  | _ => true
def belows (n : Nat) : List D → Bool
  | [] => true
  | d :: ds => below n d && belows n ds
end
def Ob.below (n : Nat) : Ob → Bool
  | .lst ds => belows n ds
  | .dct _ kvs => belows n (kvs.map (·.2))
  | .dctN _ kvs => belows n (kvs.map (·.2))
  | .ins _ fs => belows n (fs.map (·.2))
def closed (S : Store) : Prop := ∀ o ∈ S, o.below S.length = true

/-- a list that may change, as it stands -/
def frz1 (S : Store) (d : D) : D := match d with
  | .ref n => match S[n]? with
    | some (.lst ds) => .fl ds
    | _ => .ref n
  | d => d
/-- equality of data as Python's -/
def eqP (S : Store) (x y : D) (R : Bool → Prop) : Prop :=
  match toPy (frz1 S x), toPy (frz1 S y) with
  | some a, some b => SeqAt.shaped a = true ∧ SeqAt.shaped b = true ∧ R (PyData.eqv a b)
  | _, _ => False
def intsOf : List D → Option (List Int)
  | [] => some []
  | .int i :: ds => (intsOf ds).map (i :: ·)
  | _ :: _ => none
def blsOf : List D → Option (List Bool)
  | [] => some []
  | .bl i :: ds => (blsOf ds).map (i :: ·)
  | _ :: _ => none
/-- x in y -/
def inP (S : Store) (x y : D) (R : Bool → Prop) : Prop :=
  match y with
  | .ref n => match S[n]? with
    | some (.dct _ kvs) => ∃ k, keyOf x = some k ∧ R (lookD kvs k).isSome
    | some (.dctN _ kvs) => ∃ k, keyN x = some k ∧ R (lookD kvs k).isSome
    | some (.lst ds) => ∃ a bs, toPy x = some a ∧ toPys ds = some bs ∧ SeqAt.shaped a = true ∧ SeqAt.shaped (.list bs) = true ∧ R (bs.any fun z => PyData.eqv z a)
    | _ => False
  | .fl ds => ∃ a bs, toPy x = some a ∧ toPys ds = some bs ∧ SeqAt.shaped a = true ∧ SeqAt.shaped (.list bs) = true ∧ R (bs.any fun z => PyData.eqv z a)
  | .tup ds => (∃ i ns, x = .int i ∧ intsOf ds = some ns ∧ R (decide (i ∈ ns))) ∨ ∃ a bs, toPy x = some a ∧ toPys ds = some bs ∧ SeqAt.shaped a = true ∧ SeqAt.shaped (.tuple bs) = true ∧ R (bs.any fun z => PyData.eqv z a)
  | _ => False
def cmpP (S : Store) (o : CmpOp) (x y : D) (R : Bool → Prop) : Prop :=
  match o with
  | .Lt => match x, y with | .int i, .int j => R (decide (i < j)) | _, _ => False
  | .LtE => match x, y with | .int i, .int j => R (decide (i ≤ j)) | _, _ => False
  | .Gt => match x, y with | .int i, .int j => R (decide (j < i)) | _, _ => False
  | .GtE => match x, y with | .int i, .int j => R (decide (j ≤ i)) | _, _ => False
  | .Eq => eqP S x y R
  | .NotEq => eqP S x y fun b => R (!b)
  | .In => inP S x y R
  | .NotIn => inP S x y fun b => R (!b)
  | .Is => match y with | .non => R (match x with | .non => true | _ => false) | .bl b => R (match x with | .bl a => decide (a = b) | _ => false) | _ => False
  | .IsNot => match y with | .non => R (match x with | .non => false | _ => true) | .bl b => R (match x with | .bl a => !decide (a = b) | _ => true) | _ => False
def binP (S : Store) (o : Operator) (x y : D) (R : D → Prop) : Prop :=
  match o, x, y with
  | .Add, .int i, .int j => R (.int (i + j))
  | .Add, .tup a, .tup b => a.length + b.length ≤ sizeLine ∧ R (.tup (a ++ b))
  | .Add, .fl a, .fl b => a.length + b.length ≤ sizeLine ∧ R (.fl (a ++ b))
  | .Add, .str a, .str b => a.length + b.length ≤ sizeLine ∧ R (.str (a ++ b))
  | .Sub, .int i, .int j => R (.int (i - j))
  | .Mult, .int i, .int j => (CMulW i j ∨ CMul i j) ∧ R (.int (i * j))
  | .Mult, .fl a, .int k => 0 ≤ k ∧ k < 2 ^ 63 ∧ a.length * k.toNat ≤ sizeLine ∧ R (.fl (List.replicate k.toNat a).flatten)
  | .FloorDiv, .int i, .int j => CDivW i j ∧ R (.int (i / j))
  | .Mod, .int i, .int j => 0 < j ∧ R (.int (i % j))
  | .Pow, .int i, .int j => CPow i j ∧ R (.int (i ^ j.toNat))
  | .LShift, .int i, .int j => CPow i j ∧ R (.int (i * 2 ^ j.toNat))
  | .RShift, .int i, .int j => 0 ≤ j ∧ R (.int (i / 2 ^ j.toNat))
  | .BitAnd, .int i, .int j => R (.int (Builtin.bitAnd i j))
  | _, _, _ => False
/-- a[i] -/
def ixP (S : Store) (a i : D) (R : D → Prop) : Prop :=
  match a with
  | .ref n => match S[n]? with
    | some (.lst ds) => ∃ k d, i = .int k ∧ atI ds k = some d ∧ R d
    | some (.dct _ kvs) => ∃ k d, keyOf i = some k ∧ lookD kvs k = some d ∧ R d
    | some (.dctN _ kvs) => ∃ k d, keyN i = some k ∧ lookD kvs k = some d ∧ R d
    | _ => False
  | a => ∃ ds k d, seqOf S a = some ds ∧ i = .int k ∧ atI ds k = some d ∧ R d
/-- a[i] = x -/
def putP (S : Store) (a i x : D) (R : Store → Prop) : Prop :=
  match a with
  | .ref n => match S[n]? with
    | some (.lst ds) => ∃ k j, i = .int k ∧ ixN ds.length k = some j ∧ R (S.set n (.lst (ds.set j x)))
    | some (.dct false kvs) => ∃ k, keyOf i = some k ∧ kvs.length < sizeLine ∧ R (S.set n (.dct false (putD kvs k x)))
    | some (.dctN false kvs) => ∃ k, keyN i = some k ∧ kvs.length < sizeLine ∧ R (S.set n (.dctN false (putD kvs k x)))
    | _ => False
  | _ => False
def cutD (xs : List D) (lo hi : Option Int) : List D := (xs.drop (HT.sIx xs.length 0 lo)).take (HT.sIx xs.length xs.length hi - HT.sIx xs.length 0 lo)
def slP (S : Store) (a : D) (lo hi : Option Int) (R : D → Prop) : Prop :=
  match a with
  | .tup ds => R (.tup (cutD ds lo hi))
  | a => ∃ ds, seqOf S a = some ds ∧ R (.fl (cutD ds lo hi))

/-- built-ins by values -/
inductive Bi where
  | len | abs | int | tuple | list | sum | all | any | max | min | max2 | min2 | sorted | sortd | listd
  deriving DecidableEq
def Bi.name : Bi → Str
  | .len => "len" | .abs => "abs" | .int => "int" | .tuple => "tuple" | .list => "list" | .sum => "sum" | .all => "all" | .any => "any"
  | .max => "max" | .min => "min" | .max2 => "max" | .min2 => "min" | .sorted => "sorted" | .sortd => "sorted" | .listd => "list"
def Bi.val : Bi → Value
  | .len => .builtin "len" | .abs => .builtin "abs" | .int => .type "int" | .tuple => .type "tuple" | .list => .type "list" | .sum => .builtin "sum" | .all => .builtin "all" | .any => .builtin "any"
  | .max => .builtin "max" | .min => .builtin "min" | .max2 => .builtin "max" | .min2 => .builtin "min" | .sorted => .builtin "sorted" | .sortd => .builtin "sorted" | .listd => .type "list"
/-- what a value gives that is collected: a row's items, a dict's keys -/
def colOf (S : Store) (d : D) : Option (List D) := match d with
  | .ref n => match S[n]? with
    | some (.lst ds) => some ds
    | some (.dct _ kvs) => some (kvs.map fun kv => unKey kv.1)
    | some (.dctN _ kvs) => some (kvs.map fun kv => unNK kv.1)
    | _ => none
  | d => seqOf S d
def pyD (d : D) : PyData := (toPy d).getD .none
/-- sorted by keys: the data's order -/
def srtP (ds : List D) (kf : D → PyData) (R : D → Prop) : Prop := ds.length ≤ sizeLine ∧ PySem.W.AllAlike (ds.map kf) ∧ PySem.W.Sortable (ds.map kf) ∧ (∀ d ∈ ds, (kf d).depth ≤ 8) ∧ R (.fl (ds.mergeSort (PySem.W.dataLe false kf)))
/-- numbers, each once -/
def setI : List Int → List Int
  | [] => []
  | i :: r => if i ∈ setI r then setI r else i :: setI r
def insI (i : Int) : List Int → List Int
  | [] => [i]
  | j :: r => if i ≤ j then i :: j :: r else j :: insI i r
def sortI (ns : List Int) : List Int := ns.foldr insI []
def maxI : List Int → Int
  | [] => 0
  | [i] => i
  | i :: j :: r => let m := maxI (j :: r); if m ≤ i then i else m
def minI : List Int → Int
  | [] => 0
  | [i] => i
  | i :: j :: r => let m := minI (j :: r); if i ≤ m then i else m
def biP (S : Store) : Bi → List D → (D → Prop) → Prop
  | .len, [d], R => match d with
    | .ref n => match S[n]? with
      | some (.lst ds) => R (.int ds.length)
      | some (.dct _ kvs) => R (.int kvs.length)
      | some (.dctN _ kvs) => R (.int kvs.length)
      | _ => False
    | d => ∃ ds, seqOf S d = some ds ∧ R (.int ds.length)
  | .abs, [.int i], R => R (.int (if i < 0 then -i else i))
  | .int, [.int i], R => R (.int i)
  | .tuple, [d], R => ∃ ds, seqOf S d = some ds ∧ R (.tup ds)
  | .list, [d], R => ∃ ds, seqOf S d = some ds ∧ R (.fl ds)
  | .sum, [d], R => ∃ ds ns, (∀ xs, d ≠ .tup xs) ∧ seqOf S d = some ds ∧ intsOf ds = some ns ∧ R (.int ns.sum)
  | .all, [d], R => ∃ ds bs, (∀ xs, d ≠ .tup xs) ∧ seqOf S d = some ds ∧ blsOf ds = some bs ∧ R (.bl (bs.all id))
  | .any, [d], R => ∃ ds bs, (∀ xs, d ≠ .tup xs) ∧ seqOf S d = some ds ∧ blsOf ds = some bs ∧ R (.bl (bs.any id))
  | .max, [d], R => ∃ ds ns, (∀ xs, d ≠ .tup xs) ∧ seqOf S d = some ds ∧ intsOf ds = some ns ∧ 0 < ns.length ∧ R (.int (maxI ns))
  | .min, [d], R => ∃ ds ns, (∀ xs, d ≠ .tup xs) ∧ seqOf S d = some ds ∧ intsOf ds = some ns ∧ 0 < ns.length ∧ R (.int (minI ns))
  | .max2, [.int i, .int j], R => R (.int (if j > i then j else i))
  | .min2, [.int i, .int j], R => R (.int (if j < i then j else i))
  | .sorted, [d], R => ∃ ds ns, seqOf S d = some ds ∧ intsOf ds = some ns ∧ R (.fl ((sortI ns).map .int))
  | .sortd, [d], R => ∃ ds, colOf S d = some ds ∧ (∀ x ∈ ds, (toPy x).isSome = true) ∧ srtP ds pyD R
  | .listd, [d], R => ∃ n kvs, d = .ref n ∧ S[n]? = some (.dct false kvs) ∧ R (.fl (kvs.map fun kv => unKey kv.1))
  | _, _, _ => False
/-- the types that isinstance is asked for -/
inductive Ty where
  | int | bool | str | tuple | list
  deriving DecidableEq
def Ty.name : Ty → String
  | .int => "int" | .bool => "bool" | .str => "str" | .tuple => "tuple" | .list => "list"
def isiP (t : Ty) : D → (Bool → Prop) → Prop
  | .non, R => R false
  | .bl _, R => R (match t with | .int => true | .bool => true | _ => false)
  | .int _, R => R (match t with | .int => true | _ => false)
  | .str _, R => R (match t with | .str => true | _ => false)
  | .tup _, R => R (match t with | .tuple => true | _ => false)
  | .fl _, R => R (match t with | .list => true | _ => false)
  | _, _ => False

/-! ### the constructs -/
/-- a target: a name's place, or a row of targets -/
inductive Tg where
  | n (i : Nat) | nil | cons (g : Tg) (gs : Tg)
mutual
inductive E where
  | v (i : Nat) | gl (j : Nat) | non | bl (b : Bool) | int (i : Int) | str (x : Str)
  | bin (o : Operator) (a b : E) | neg (a : E) | cmp (o : CmpOp) (a b : E) | chain (o o' : CmpOp) (a b c : E)
  | and (a r : E) | or (a r : E) | one (a : E) | not (a : E) | ite (c a b : E)
  | tup (es : Es) | lst (es : Es) | newl (es : Es) | newd | newn | dk1 (a b : E) | dn1 (a b : E) | lock (e : E)
  | ix (a i : E) | sl (a : E) (lo hi : Oe) | call (j : Nat) (es : Es) | bi (b : Bi) (es : Es) | isi (a : E) (t : Ty)
  | told (j : Nat) (e : E) | lrng (a : E) | fld (c : Nat) (a : E) (f : Str) | make (c j : Nat) (es : Es) | meth (c j : Nat) (m : Str) (a : E) (es : Es)
  | lc (g : Tg) (it : It) (t : Oe) (elt : E) (own : List Nat)
  | srtk (a : E) (caps : List Nat) (body : E) | srtr (a : E) (caps : List Nat) (body : E) | srts (a : E) | lens (a : E) | get2 (d k x : E) | sdef (d k x : E)
inductive Es where
  | nil | cons (e : E) (es : Es)
inductive Oe where
  | no | yes (e : E)
inductive It where
  | val (e : E) | rng1 (a : E) | rng2 (a b : E) | enum (e : E) | zip (a b : E)
end
mutual
inductive SI where
  | asg (g : Tg) (e : E) | par (i j : Nat) (a b : E) | aug (i : Nat) (o : Operator) (e : E)
  | put (a i e : E) | setf (c : Nat) (a : E) (f : Str) (e : E) | app (a e : E) | ex (e : E) | ret (e : E) | if_ (c : E) (a b : SIs) | for_ (g : Tg) (it : It) (b : SIs)
  | while_ (c : E) (b : SIs) | try_ (b : SIs) | lock (s : SI) | never | brk | cont
inductive SIs where
  | nil | cons (s : SI) (ss : SIs)
end

/-! ### what they mean -/
abbrev Rho := List (Option D)
abbrev RE := D → Store → Prop
/-- what a def is worth, by its arguments and the store -/
abbrev Phi := List D → Store → RE → Prop
/-- what is wanted behind a statement -/
structure DE where
  nx : Rho → Store → Prop
  rt : RE
  bk : Rho → Store → Prop := fun _ _ => False
  ct : Rho → Store → Prop := fun _ _ => False
def rdP (ρ : Rho) (i : Nat) (R : D → Prop) : Prop := match ρ[i]? with | some (some d) => R d | _ => False
def wipeD (ρ : Rho) : List Nat → Rho
  | [] => ρ
  | v :: vs => (wipeD ρ vs).set v none
def asgP : Tg → D → Rho → (Rho → Prop) → Prop
  | .n i, d, ρ, R => R (ρ.set i (some d))
  | .nil, d, ρ, R => match d with | .tup [] => R ρ | _ => False
  | .cons g gs, d, ρ, R => match d with
    | .tup (x :: xs) => asgP g x ρ fun ρ' => asgP gs (.tup xs) ρ' R
    | _ => False
/-- a walk of items; Src: what must stay true of the store ahead of each turn -/
def forP (b : D → Rho → Store → (Rho → Store → Prop) → Prop) (Src : Store → Prop) (K : Rho → Store → Prop) : List D → Rho → Store → Prop
  | [], ρ, S => Src S ∧ K ρ S
  | d :: ds, ρ, S => Src S ∧ b d ρ S fun ρ' S' => forP b Src K ds ρ' S'
/-- the items of a comprehension -/
def mapP (b : D → Store → (Option D → Store → Prop) → Prop) (Src : Store → Prop) (K : List D → Store → Prop) : List D → List D → Store → Prop
  | [], acc, S => Src S ∧ K acc S
  | d :: ds, acc, S => Src S ∧ acc.length < sizeLine ∧ b d S fun o S' => mapP b Src K ds (match o with | some x => acc ++ [x] | none => acc) S'
def enumD (i : Nat) : List D → List D
  | [] => []
  | d :: ds => .tup [.int i, d] :: enumD (i + 1) ds
def zipD : List D → List D → List D
  | a :: as, b :: bs => .tup [a, b] :: zipD as bs
  | _, _ => []
def rgD (lo : Int) (n : Nat) : List D := (List.range n).map fun i => .int (lo + (i : Nat))
/-- a dict that is walked -/
def lockOb : Ob → Option Ob
  | .dct false kvs => some (.dct true kvs)
  | .dctN false kvs => some (.dctN true kvs)
  | _ => none
/-- what a value yields when it is walked; a dict that is locked yields its keys -/
def walkOf (S : Store) (d : D) : Option (List D) := match d with
  | .ref n => match S[n]? with
    | some (.lst ds) => some ds
    | some (.dct true kvs) => some (kvs.map fun kv => unKey kv.1)
    | some (.dctN true kvs) => some (kvs.map fun kv => unNK kv.1)
    | _ => none
  | d => seqOf S d
/-- a op= b of ints -/
def augP (o : Operator) (x y : D) (R : D → Prop) : Prop := match o, x, y with
  | .Add, .int i, .int j => R (.int (i + j))
  | .Sub, .int i, .int j => R (.int (i - j))
  | _, _, _ => False
/-- an attribute stored -/
def putFD (f : Str) (y : D) : List (Str × D) → List (Str × D)
  | [] => [(f, y)]
  | p :: r => if p.1 = f then (f, y) :: r else p :: putFD f y r
def boolP (d : D) (R : Bool → Prop) : Prop := match d with | .bl k => R k | _ => False
section
variable (G : Nat → Option Phi) (C : Nat → Option Int)
mutual
def evE : E → Rho → Store → RE → Prop
  | .v i, ρ, S, R => rdP ρ i fun d => R d S
  | .gl j, ρ, S, R => match C j with | some i => R (.int i) S | none => False
  | .non, ρ, S, R => R .non S
  | .bl b, ρ, S, R => R (.bl b) S
  | .int i, ρ, S, R => R (.int i) S
  | .str x, ρ, S, R => R (.str x) S
  | .bin o a b, ρ, S, R => evE a ρ S fun x S1 => evE b ρ S1 fun y S2 => binP S2 o x y fun d => R d S2
  | .neg a, ρ, S, R => evE a ρ S fun x S1 => match x with | .int i => R (.int (-i)) S1 | _ => False
  | .cmp o a b, ρ, S, R => evE a ρ S fun x S1 => evE b ρ S1 fun y S2 => cmpP S2 o x y fun k => R (.bl k) S2
  | .chain o o' a b c, ρ, S, R => evE a ρ S fun x S1 => evE b ρ S1 fun y S2 => cmpP S2 o x y fun k => if k = true then evE c ρ S2 fun z S3 => cmpP S3 o' y z fun k' => R (.bl k') S3 else R (.bl false) S2
  | .and a r, ρ, S, R => evE a ρ S fun x S1 => boolP x fun k => if k = true then evE r ρ S1 R else R (.bl false) S1
  | .or a r, ρ, S, R => evE a ρ S fun x S1 => boolP x fun k => if k = true then R (.bl true) S1 else evE r ρ S1 R
  | .one a, ρ, S, R => evE a ρ S R
  | .not a, ρ, S, R => evE a ρ S fun x S1 => boolP x fun k => R (.bl (!k)) S1
  | .ite c a b, ρ, S, R => evE c ρ S fun x S1 => boolP x fun k => if k = true then evE a ρ S1 R else evE b ρ S1 R
  | .tup es, ρ, S, R => evEs es ρ S fun ds S1 => ds.length ≤ sizeLine ∧ R (.tup ds) S1
  | .lst es, ρ, S, R => evEs es ρ S fun ds S1 => ds.length ≤ sizeLine ∧ R (.fl ds) S1
  | .newl es, ρ, S, R => evEs es ρ S fun ds S1 => ds.length ≤ sizeLine ∧ R (.ref S1.length) (S1 ++ [.lst ds])
  | .newd, ρ, S, R => R (.ref S.length) (S ++ [.dct false []])
  | .newn, ρ, S, R => R (.ref S.length) (S ++ [.dctN false []])
  | .dk1 a b, ρ, S, R => evE a ρ S fun x S1 => evE b ρ S1 fun y S2 => ∃ key, keyOf x = some key ∧ R (.ref S2.length) (S2 ++ [.dct false [(key, y)]])
  | .dn1 a b, ρ, S, R => evE a ρ S fun x S1 => evE b ρ S1 fun y S2 => ∃ key, keyN x = some key ∧ R (.ref S2.length) (S2 ++ [.dctN false [(key, y)]])
  | .lock e, ρ, S, R => ∃ n o o', S[n]? = some o ∧ lockOb o = some o' ∧ evE e ρ (S.set n o') fun d S1 => S1[n]? = some o' ∧ R d (S1.set n o)
  | .ix a i, ρ, S, R => evE a ρ S fun x S1 => evE i ρ S1 fun y S2 => ixP S2 x y fun d => R d S2
  | .sl a lo hi, ρ, S, R => evE a ρ S fun x S1 => evO lo ρ S1 fun l S2 => evO hi ρ S2 fun h S3 => slP S3 x l h fun d => R d S3
  | .call j es, ρ, S, R => match G j with | some φ => evEs es ρ S fun ds S1 => φ ds S1 R | none => False
  | .bi b es, ρ, S, R => evEs es ρ S fun ds S1 => biP S1 b ds fun d => R d S1
  | .isi a t, ρ, S, R => evE a ρ S fun x S1 => isiP t x fun k => R (.bl k) S1
  | .lrng a, ρ, S, R => evE a ρ S fun d S1 => match d with | .int j => -(2 ^ 62) ≤ j ∧ j ≤ 16777216 ∧ R (.fl (rgD 0 j.toNat)) S1 | _ => False
  | .told j e, ρ, S, R => match G j with | some φ => evE e ρ S fun d S1 => φ [d] S1 fun d' S2 => R (.tup [.int 0, d']) S2 | none => False
  | .fld c a f, ρ, S, R => evE a ρ S fun x S1 => ∃ n fs d, x = .ref n ∧ S1[n]? = some (.ins c fs) ∧ fs.lookup f = some d ∧ R d S1
  | .make c j es, ρ, S, R => match G j with | some φ => evEs es ρ S fun ds S1 => φ (.ref S1.length :: ds) (S1 ++ [.ins c []]) fun d S2 => d = .non ∧ R (.ref S1.length) S2 | none => False
  | .meth c j m a es, ρ, S, R => match G j with | some φ => evE a ρ S fun x S1 => ∃ n fs, x = .ref n ∧ S1[n]? = some (.ins c fs) ∧ fs.lookup m = none ∧ evEs es ρ S1 fun ds S2 => φ (x :: ds) S2 R | none => False
  | .lc g it t elt own, ρ, S, R => evI it ρ S fun ds Src S1 =>
      mapP (fun d S2 K => asgP g d (wipeD ρ own) fun ρ' => evT t ρ' S2 fun k S3 => if k = true then evE elt ρ' S3 fun x S4 => K (some x) S4 else K none S3) Src (fun acc S5 => R (.fl acc) S5) ds [] S1
  | .srtk a caps body, ρ, S, R => evE a ρ S fun d S1 => ∃ ds kf, colOf S1 d = some ds ∧ (∀ x ∈ ds, evE body (some x :: caps.map fun j => (ρ[j]?).join) S1 fun e S2 => S2 = S1 ∧ toPy e = some (kf x)) ∧ srtP ds kf fun d => R d S1
  | .srtr a caps body, ρ, S, R => evE a ρ S fun d S1 => match d with
    | .int j => (-(2 ^ 62) ≤ j ∧ j ≤ 16777216) ∧ ∃ kf, (∀ x ∈ rgD 0 j.toNat, evE body (some x :: caps.map fun j => (ρ[j]?).join) S1 fun e S2 => S2 = S1 ∧ toPy e = some (kf x)) ∧ srtP (rgD 0 j.toNat) kf fun d => R d S1
    | _ => False
  | .srts a, ρ, S, R => evE a ρ S fun d S1 => ∃ ds ns, seqOf S1 d = some ds ∧ intsOf ds = some ns ∧ ns.length ≤ 4000 ∧ R (.fl ((sortI (setI ns)).map .int)) S1
  | .lens a, ρ, S, R => evE a ρ S fun d S1 => ∃ ds ns, seqOf S1 d = some ds ∧ intsOf ds = some ns ∧ ns.length ≤ 4000 ∧ R (.int (setI ns).length) S1
  | .get2 d k x, ρ, S, R => evE d ρ S fun y S1 => (∃ n l kvs, y = .ref n ∧ S1[n]? = some (.dct l kvs)) ∧ evE k ρ S1 fun z S2 => evE x ρ S2 fun w S3 => ∃ n l kvs key, y = .ref n ∧ S3[n]? = some (.dct l kvs) ∧ keyOf z = some key ∧ R ((lookD kvs key).getD w) S3
  | .sdef d k x, ρ, S, R => evE d ρ S fun y S1 => (∃ n l kvs, y = .ref n ∧ S1[n]? = some (.dct l kvs)) ∧ evE k ρ S1 fun z S2 => evE x ρ S2 fun w S3 => ∃ n kvs key, y = .ref n ∧ S3[n]? = some (.dct false kvs) ∧ keyOf z = some key ∧ kvs.length < sizeLine ∧
      (∀ v, lookD kvs key = some v → R v S3) ∧ (lookD kvs key = none → R w (S3.set n (.dct false (putD kvs key w))))
def evEs : Es → Rho → Store → (List D → Store → Prop) → Prop
  | .nil, ρ, S, R => R [] S
  | .cons e es, ρ, S, R => evE e ρ S fun d S1 => evEs es ρ S1 fun ds S2 => R (d :: ds) S2
/-- a part of a slice -/
def evO : Oe → Rho → Store → (Option Int → Store → Prop) → Prop
  | .no, ρ, S, R => R none S
  | .yes e, ρ, S, R => evE e ρ S fun d S1 => match d with | .int i => R (some i) S1 | _ => False
/-- a comprehension's test -/
def evT : Oe → Rho → Store → (Bool → Store → Prop) → Prop
  | .no, ρ, S, R => R true S
  | .yes e, ρ, S, R => evE e ρ S fun d S1 => boolP d fun k => R k S1
def evI : It → Rho → Store → (List D → (Store → Prop) → Store → Prop) → Prop
  | .val e, ρ, S, R => evE e ρ S fun d S1 => ∃ ds, walkOf S1 d = some ds ∧ R ds (fun S' => seqOf S1 d = some ds → seqOf S' d = some ds) S1
  | .rng1 a, ρ, S, R => evE a ρ S fun d S1 => match d with | .int j => -(2 ^ 62) ≤ j ∧ j < 2 ^ 62 ∧ R (rgD 0 j.toNat) (fun _ => True) S1 | _ => False
  | .rng2 a b, ρ, S, R => evE a ρ S fun d S1 => evE b ρ S1 fun d' S2 => match d, d' with
    | .int i, .int j => (-(2 ^ 62) ≤ i ∧ i < 2 ^ 62 ∧ -(2 ^ 62) ≤ j ∧ j < 2 ^ 62) ∧ R (rgD i (j - i).toNat) (fun _ => True) S2
    | _, _ => False
  | .enum e, ρ, S, R => evE e ρ S fun d S1 => ∃ ds, seqOf S1 d = some ds ∧ R (enumD 0 ds) (fun S' => seqOf S' d = some ds) S1
  | .zip a b, ρ, S, R => evE a ρ S fun d S1 => evE b ρ S1 fun d' S2 => ∃ ds es, (∀ xs, d ≠ .tup xs) ∧ (∀ xs, d' ≠ .tup xs) ∧ seqOf S2 d = some ds ∧ seqOf S2 d' = some es ∧ R (zipD ds es) (fun S' => seqOf S' d = some ds ∧ seqOf S' d' = some es) S2
end
mutual
def evS : SI → DE → Rho → Store → Prop
  | .asg g e, Q, ρ, S => evE G C e ρ S fun d S1 => asgP g d ρ fun ρ' => Q.nx ρ' S1
  | .par i j a b, Q, ρ, S => evE G C a ρ S fun x S1 => evE G C b ρ S1 fun y S2 => Q.nx ((ρ.set i (some x)).set j (some y)) S2
  | .aug i o e, Q, ρ, S => rdP ρ i fun x => evE G C e ρ S fun y S1 => augP o x y fun z => Q.nx (ρ.set i (some z)) S1
  | .put a i e, Q, ρ, S => evE G C e ρ S fun x S1 => evE G C a ρ S1 fun y S2 => evE G C i ρ S2 fun z S3 => putP S3 y z x fun S4 => Q.nx ρ S4
  | .setf c a f e, Q, ρ, S => evE G C e ρ S fun y S1 => evE G C a ρ S1 fun x S2 => ∃ n fs, x = .ref n ∧ S2[n]? = some (.ins c fs) ∧ fs.length < 1000 ∧ Q.nx ρ (S2.set n (.ins c (putFD f y fs)))
  | .app a e, Q, ρ, S => evE G C a ρ S fun y S1 => ∃ n ds0, y = .ref n ∧ S1[n]? = some (.lst ds0) ∧ evE G C e ρ S1 fun x S2 => ∃ ds, S2[n]? = some (.lst ds) ∧ ds.length < sizeLine ∧ Q.nx ρ (S2.set n (.lst (ds ++ [x])))
  | .ex e, Q, ρ, S => evE G C e ρ S fun _ S1 => Q.nx ρ S1
  | .ret e, Q, ρ, S => evE G C e ρ S Q.rt
  | .if_ c a b, Q, ρ, S => evE G C c ρ S fun d S1 => boolP d fun k => if k = true then evSs a Q ρ S1 else evSs b Q ρ S1
  | .for_ g it b, Q, ρ, S => evI G C it ρ S fun ds Src S1 =>
      forP (fun d ρ' S2 K => asgP g d ρ' fun ρ'' => evSs b { nx := K, ct := K, bk := Q.nx, rt := Q.rt } ρ'' S2) Src Q.nx ds ρ S1
  | .while_ c b, Q, ρ, S => ∃ Wh : Nat → Rho → Store → Prop, (∃ m, Wh m ρ S) ∧ ∀ m ρ S, Wh m ρ S → evE G C c ρ S fun d S1 => boolP d fun k =>
      if k = true then evSs b { nx := fun ρ' S' => ∃ m', m' < m ∧ Wh m' ρ' S', ct := fun ρ' S' => ∃ m', m' < m ∧ Wh m' ρ' S', bk := Q.nx, rt := Q.rt } ρ S1 else Q.nx ρ S1
  | .try_ b, Q, ρ, S => evSs b Q ρ S
  | .lock s, Q, ρ, S => ∃ n o o', S[n]? = some o ∧ lockOb o = some o' ∧ evS s { nx := fun ρ' S1 => S1[n]? = some o' ∧ Q.nx ρ' (S1.set n o), rt := fun d S1 => S1[n]? = some o' ∧ Q.rt d (S1.set n o), bk := fun ρ' S1 => S1[n]? = some o' ∧ Q.bk ρ' (S1.set n o), ct := fun ρ' S1 => S1[n]? = some o' ∧ Q.ct ρ' (S1.set n o) } ρ (S.set n o')
  | .never, _, _, _ => False
  | .brk, Q, ρ, S => Q.bk ρ S
  | .cont, Q, ρ, S => Q.ct ρ S
def evSs : SIs → DE → Rho → Store → Prop
  | .nil, Q, ρ, S => Q.nx ρ S
  | .cons s ss, Q, ρ, S => evS s { Q with nx := fun ρ' S' => evSs ss Q ρ' S' } ρ S
end
end
end DL

set_option Elab.async false
set_option linter.all false
set_option maxRecDepth 100000
/-! DL2: when a text of the model is such a construct. -/
namespace DL
open PySem PySem.Spec PyProof.Rows L2

/-- the text's names: of the defs and constants, of the classes; the fields of a class, its methods -/
structure Nm where
  g : Nat → Option Str
  k : Nat → Option Str
  c : Nat → Option Str := fun _ => none
  f : Nat → List Str := fun _ => []
  m : Nat → Nat → Option Str := fun _ _ => none
  i : Nat → Nat := fun _ => 0
  told : Option Str := none
  rd : Nat := 0
structure Ck where
  N : List Str
  sc : Scope
  st : Str → Bool
  tl : Bool := false
  lm : Bool := false
def visB (sc : Scope) (x : Str) : Bool := match sc.names.lookup x with | some .local => true | some .cell => true | some .free => true | _ => false
def okName (x : Str) : Bool := !(x == ("__debug__" : Str)) && !(x == ("__classdict__" : Str))
/-- no star, no slice, no set display, no comprehension of sets or dicts -/
def plainX : Expr → Bool
  | .Starred .. => false | .Slice .. => false | .Set .. => false | .SetComp .. => false | .DictComp .. => false | _ => true
def notLc : Expr → Bool
  | .ListComp .. => false | .SetComp .. => false | .DictComp .. => false | _ => true
def notCall0 : Expr → Bool
  | .Call (.Name _ _) [] [] _ => false | _ => true
/-- a place of a test that is asked by its truth -/
def testX : Expr → Bool
  | .UnaryOp .Not _ _ => false | .BoolOp .. => false | .IfExp .. => false | .Compare .. => false | _ => true
def isLocB (sc : Scope) (x : Str) : Bool := decide (sc.names.lookup x = some .local)
def Ck.blk (c : Ck) (scope : Scope) : Ck :=
  { tl := c.tl, lm := c.lm, N := c.N, sc := relS scope c.sc, st := fun x => isLocB (relS scope c.sc) x || (decide (scope.names.lookup x = some .cell) && decide ((relS scope c.sc).names.lookup x = some .cell)) }
def ownOf (N : List Str) (scope : Scope) : List (Str × Nat) :=
  scope.names.filterMap fun (n, k) => match k with
    | .local => (N.findIdx? (· == n)).map fun i => (n, i)
    | .cell => (N.findIdx? (· == n)).map fun i => (n, i)
    | _ => none
def Tg.slots : Tg → List Nat
  | .n i => [i]
  | .nil => []
  | .cons g gs => g.slots ++ gs.slots
/-- the target of enumerate, zip is a tuple -/
def tupG : It → Expr → Bool
  | .enum _, .Tuple .. => true
  | .zip _ _, .Tuple .. => true
  | .enum _, _ => false
  | .zip _ _, _ => false
  | _, _ => true
def isGlob (sc : Scope) (x : Str) : Bool := decide (sc.names.lookup x = some .globalImplicit)

/-- the captured names of a lambda, by their places -/
def capsB (c : Ck) : List Nat → List Str → Bool
  | [], [] => true
  | j :: js, y :: ys => decide (c.N[j]? = some y) && (decide (c.sc.names.lookup y = some .cell) || decide (c.sc.names.lookup y = some .free)) && capsB c js ys
  | _, _ => false
/-- a lambda of one parameter: its names are the parameter, then the captured ones -/
def lam1B (c : Ck) (x : Str) (caps : List Nat) (fr : List Str) (scope : Scope) : Bool := c.lm && NdefX.nscB (x :: fr) [x] fr scope && capsB c caps fr
/-- f(a, key=lambda z: ..) -/
structure KC where
  n : Str
  p : Pos
  a : Expr
  y : Str
  z : Str
  zp : Pos
  lb : Expr
  sc : Scope
  lp : Pos
  kp : Pos
  pos : Pos
abbrev lamArgs (z : Str) (zp : Pos) : Arguments := ⟨[], [⟨z, none, zp⟩], none, [], [], none, []⟩
abbrev KC.x (r : KC) : Expr := .Call (.Name r.n r.p) [r.a] [⟨some r.y, .Lambda (lamArgs r.z r.zp) r.lb r.sc r.lp, r.kp⟩] r.pos
def asKC : Expr → Option KC
  | .Call (.Name n p) [a] [⟨some y, .Lambda ⟨[], [⟨z, none, zp⟩], none, [], [], none, []⟩ lb sc lp, kp⟩] pos => some ⟨n, p, a, y, z, zp, lb, sc, lp, kp, pos⟩
  | _ => none
theorem asKC_eq {x : Expr} {r : KC} (h : asKC x = some r) : x = r.x := by
  unfold asKC at h
  split at h
  · cases h; rfl
  · cases h
/-- f(a) -/
structure C1 where
  n : Str
  p : Pos
  a : Expr
  pos : Pos
abbrev C1.x (r : C1) : Expr := .Call (.Name r.n r.p) [r.a] [] r.pos
def asC1 : Expr → Option C1
  | .Call (.Name n p) [a] [] pos => some ⟨n, p, a, pos⟩
  | _ => none
theorem asC1_eq {x : Expr} {r : C1} (h : asC1 x = some r) : x = r.x := by
  unfold asC1 at h
  split at h
  · cases h; rfl
  · cases h
/-- o.m(e, f) -/
structure MT2 where
  o : Expr
  m : Str
  apos : Pos
  e : Expr
  f : Expr
  pos : Pos
abbrev MT2.x (r : MT2) : Expr := .Call (.Attribute r.o r.m r.apos) [r.e, r.f] [] r.pos
def asM2 : Expr → Option MT2
  | .Call (.Attribute o m apos) [e, f] [] pos => some ⟨o, m, apos, e, f, pos⟩
  | _ => none
theorem asM2_eq {x : Expr} {r : MT2} (h : asM2 x = some r) : x = r.x := by
  unfold asM2 at h
  split at h
  · cases h; rfl
  · cases h
def frOf (scope : Scope) : List Str := scope.names.filterMap fun y => if y.2 = .free then some y.1 else none
mutual
def chkG (k : Ck) : Tg → Expr → Bool
  | .n i, .Name x _ => decide (k.N[i]? = some x) && k.st x
  | .cons g gs, .Tuple es _ _ => chkGs k (.cons g gs) es
  | _, _ => false
def chkGs (k : Ck) : Tg → List Expr → Bool
  | .nil, [] => true
  | .cons g gs, x :: xs => plainX x && chkG k g x && chkGs k gs xs
  | _, _ => false
end
section
variable (nm : Nm)
mutual
def chkE (k : Ck) : E → Expr → Bool
  | .v i, .Name x _ => decide (k.N[i]? = some x) && visB k.sc x && okName x
  | .gl j, .Name x _ => isGlob k.sc x && decide (nm.k j = some x) && okName x
  | .non, .Constant .none _ _ => true
  | .bl b, .Constant (.bool b') _ _ => decide (b = b')
  | .int i, .Constant (.int i') _ _ => decide (i = i')
  | .str x, .Constant (.str x') _ _ => decide (x = x')
  | .bin o a b, .BinOp a' o' b' _ => decide (o = o') && chkE k a a' && chkE k b b'
  | .neg a, .UnaryOp .USub a' _ => chkE k a a'
  | .cmp o a b, .Compare a' [o'] [b'] _ => decide (o = o') && plainX b' && chkE k a a' && chkE k b b'
  | .chain o o' a b d, .Compare a' [p, p'] [b', d'] _ => decide (o = p) && decide (o' = p') && plainX b' && plainX d' && chkE k a a' && chkE k b b' && chkE k d d'
  | .and a r, .BoolOp .And (a' :: b' :: rest) pos => chkE k a a' && chkE k r (.BoolOp .And (b' :: rest) pos)
  | .or a r, .BoolOp .Or (a' :: b' :: rest) pos => chkE k a a' && chkE k r (.BoolOp .Or (b' :: rest) pos)
  | .one a, .BoolOp _ [a'] _ => chkE k a a'
  | .not a, .UnaryOp .Not a' _ => chkE k a a'
  | .ite t a b, .IfExp t' a' b' _ => chkE k t t' && chkE k a a' && chkE k b b'
  | .tup es, .Tuple xs _ _ => chkEs k es xs
  | .lst es, .List xs _ => chkEs k es xs
  | .newl es, .List xs _ => chkEs k es xs
  | .newd, .Dict [] [] _ => true
  | .newn, .Dict [] [] _ => true
  | .dk1 a b, .Dict [some a'] [b'] _ => chkE k a a' && chkE k b b'
  | .dn1 a b, .Dict [some a'] [b'] _ => chkE k a a' && chkE k b b'
  | .lock e, x => chkE k e x
  | .ix a i, .Subscript a' i' _ => plainX i' && chkE k a a' && chkE k i i'
  | .sl a lo hi, .Subscript a' (.Slice lo' hi' none _) _ => chkE k a a' && chkO k lo lo' && chkO k hi hi'
  | .call j es, .Call (.Name x _) xs [] _ => isGlob k.sc x && decide (nm.g j = some x) && okName x && chkEs k es xs
  | .bi b es, .Call (.Name x _) (a :: xs) [] _ => isGlob k.sc x && decide (b.name = x) && chkEs k es (a :: xs)
  | .isi a t, .Call (.Name x _) [a', .Name y _] [] _ => isGlob k.sc x && decide (x = ("isinstance" : Str)) && isGlob k.sc y && decide (y = Str.ofString t.name) && plainX a' && chkE k a a'
  | .lrng a, .Call (.Name x _) [.Call (.Name y _) [a'] [] _] [] _ => isGlob k.sc x && decide (x = ("list" : Str)) && isGlob k.sc y && decide (y = ("range" : Str)) && plainX a' && chkE k a a'
  | .told j e, .Call (.Name x _) [.Lambda ⟨[], [], none, [], [], none, []⟩ body scope _] [] _ => k.tl && isGlob k.sc x && decide (nm.told = some x) && decide (nm.rd = j) && okName x && LamX.lamSB k.sc scope && chkE { N := k.N, sc := scope, st := fun _ => false } e body
  | .fld c a f, .Attribute a' f' _ => decide (f' = f) && notCall0 a' && decide (f ∈ nm.f c) && chkE k a a'
  | .make c j es, .Call (.Name x _) xs [] _ => isGlob k.sc x && decide (nm.c c = some x) && decide (nm.i c = j) && okName x && chkEs k es xs
  | .meth c j m a es, .Call (.Attribute a' x apos) xs [] pos => decide (x = m) && decide (nm.m c j = some m) && notCall0 a' && (apos.endLine == pos.line) && decide (xs.length < 30) && chkE k a a' && chkEs k es xs
  | .srtk a caps body, x => match asKC x with
    | some r => isGlob k.sc r.n && decide (r.n = ("sorted" : Str)) && decide (r.y = ("key" : Str)) && plainX r.a && lam1B k r.z caps (frOf r.sc) r.sc && chkE k a r.a && chkE { N := r.z :: frOf r.sc, sc := r.sc, st := fun _ => false } body r.lb
    | none => false
  | .srtr a caps body, x => match asKC x with
    | some r => match asC1 r.a with
      | some q => isGlob k.sc r.n && decide (r.n = ("sorted" : Str)) && isGlob k.sc q.n && decide (q.n = ("range" : Str)) && decide (r.y = ("key" : Str)) && plainX q.a && lam1B k r.z caps (frOf r.sc) r.sc && chkE k a q.a && chkE { N := r.z :: frOf r.sc, sc := r.sc, st := fun _ => false } body r.lb
      | none => false
    | none => false
  | .srts a, x => match asC1 x with
    | some r => match asC1 r.a with
      | some q => isGlob k.sc r.n && decide (r.n = ("sorted" : Str)) && isGlob k.sc q.n && decide (q.n = ("set" : Str)) && plainX q.a && chkE k a q.a
      | none => false
    | none => false
  | .lens a, x => match asC1 x with
    | some r => match asC1 r.a with
      | some q => isGlob k.sc r.n && decide (r.n = ("len" : Str)) && isGlob k.sc q.n && decide (q.n = ("set" : Str)) && plainX q.a && chkE k a q.a
      | none => false
    | none => false
  | .get2 d e f, x => match asM2 x with
    | some r => decide (r.m = ("get" : Str)) && notCall0 r.o && (r.apos.endLine == r.pos.line) && plainX r.e && plainX r.f && chkE k d r.o && chkE k e r.e && chkE k f r.f
    | none => false
  | .sdef d e f, x => match asM2 x with
    | some r => decide (r.m = ("setdefault" : Str)) && notCall0 r.o && (r.apos.endLine == r.pos.line) && plainX r.e && plainX r.f && chkE k d r.o && chkE k e r.e && chkE k f r.f
    | none => false
  | .lc g it t elt own, .ListComp elt' [⟨tg, iter, ifs, as⟩] scope _ => decide (as = 0) && plainX iter && plainX tg && tupG it tg && blkC k.N k.sc scope (ownOf k.N scope) && decide ((ownOf k.N scope).map (·.2) = own) && (g.slots.all fun i => own.contains i) &&
      chkI k it iter && chkG (k.blk scope) g tg && chkT (k.blk scope) t ifs && chkE (k.blk scope) elt elt'
  | _, _ => false
def chkEs (k : Ck) : Es → List Expr → Bool
  | .nil, [] => true
  | .cons e es, x :: xs => plainX x && chkE k e x && chkEs k es xs
  | _, _ => false
def chkO (k : Ck) : Oe → Option Expr → Bool
  | .no, none => true
  | .yes e, some x => chkE k e x
  | _, _ => false
def chkT (k : Ck) : Oe → List Expr → Bool
  | .no, [] => true
  | .yes e, [x] => chkE k e x
  | _, _ => false
def chkI (k : Ck) : It → Expr → Bool
  | .val e, x => chkE k e x
  | .rng1 a, .Call (.Name x _) [a'] [] _ => isGlob k.sc x && decide (x = ("range" : Str)) && plainX a' && chkE k a a'
  | .rng2 a b, .Call (.Name x _) [a', b'] [] _ => isGlob k.sc x && decide (x = ("range" : Str)) && plainX a' && plainX b' && chkE k a a' && chkE k b b'
  | .enum a, .Call (.Name x _) [a'] [] _ => isGlob k.sc x && decide (x = ("enumerate" : Str)) && plainX a' && chkE k a a'
  | .zip a b, .Call (.Name x _) [a', b'] [] _ => isGlob k.sc x && decide (x = ("zip" : Str)) && plainX a' && plainX b' && chkE k a a' && chkE k b b'
  | _, _ => false
end
/-- y = [..] where the name and the list are exchanged -/
def swLc (k : Ck) (y : Str) (py : Pos) (value : Expr) : Bool := match value with
  | .ListComp _ _ scope pos => isLocB k.sc y && (py.line == pos.line) && !(scope.names.any fun (n, k) => n == y && (k == .local || k == .cell))
  | _ => false
def isLc : E → Bool
  | .lc .. => true | _ => false
def lcX : Expr → Bool
  | .ListComp .. => true | _ => false
/-- the stores are not exchanged -/
def swNone (k : Ck) (ts : List Expr) : Expr → Bool
  | .Tuple vs _ _ => (ts.any fun t => match t with | .Name id _ => !isLocB k.sc id | _ => true) || vs.all (foldedForSure 8)
  | _ => true
mutual
def chkS (k : Ck) : SI → Stmt → Bool
  | .asg (.n i) e, .Assign [.Name y py] value _ => (notLc value || (isLc e && lcX value)) && chkG k (.n i) (.Name y py) && chkE nm k e value
  | .asg (.cons g gs) e, .Assign [.Tuple ts kk p] value _ => swNone k ts value && notLc value && chkG k (.cons g gs) (.Tuple ts kk p) && chkE nm k e value
  | .par i j a b, .Assign [.Tuple [.Name x px, .Name y py] _ _] (.Tuple [a', b'] _ _) _ => isLocB k.sc x && isLocB k.sc y && decide (k.N[i]? = some x) && decide (k.N[j]? = some y) && decide (i ≠ j) && decide (x ≠ y) && decide (px.line = py.line) &&
      !(foldedForSure 8 a' && foldedForSure 8 b') && !(constantsAlone 8 a' && constantsAlone 8 b') && plainX a' && plainX b' && chkE nm k a a' && chkE nm k b b'
  | .aug i o e, .AugAssign (.Name x _) o' value _ => decide (o = o') && (decide (o = .Add) || decide (o = .Sub)) && decide (k.N[i]? = some x) && visB k.sc x && k.st x && chkE nm k e value
  | .put a i e, .Assign [.Subscript a' i' _] value _ => plainX i' && notLc value && chkE nm k a a' && chkE nm k i i' && chkE nm k e value
  | .setf c a f e, .Assign [.Attribute a' f' _] value _ => decide (f' = f) && notCall0 a' && notLc value && decide (f ∈ nm.f c) && chkE nm k a a' && chkE nm k e value
  | .app a e, .Expr (.Call (.Attribute a' x apos) [e'] [] cpos) _ => decide (x = ("append" : Str)) && notCall0 a' && (apos.endLine == cpos.line) && plainX e' && chkE nm k a a' && chkE nm k e e'
  | .ex e, .Expr value _ => notLc value && chkE nm k e value
  | .ret e, .Return (some value) _ => chkE nm k e value
  | .if_ t a b, .If t' a' b' _ => chkE nm k t t' && chkSs k a a' && chkSs k b b'
  | .for_ g it b, .For tg iter b' [] _ => plainX iter && plainX tg && tupG it tg && chkG k g tg && chkI nm k it iter && chkSs k b b'
  | .while_ t b, .While t' b' [] _ => chkE nm k t t' && chkSs k b b'
  | .try_ b, .Try b' (_ :: _) [] [] _ => chkSs k b b'
  | .lock s, x => chkS k s x
  | .never, _ => true
  | .brk, .Break _ => true
  | .cont, .Continue _ => true
  | _, _ => false
def chkSs (k : Ck) : SIs → List Stmt → Bool
  | .nil, [] => true
  | .cons s ss, x :: xs => chkS k s x && chkSs k ss xs
  | _, _ => false
end
end

/-! ### what the text's form gives -/
theorem star_plain {x : Expr} (h : plainX x = true) (xs : List Expr) (env : Env) : starEach (x :: xs) env = (false, eval x env) :: starEach xs env := by
  cases x <;> first | rfl | (cases h)
theorem back_plain : ∀ {xs : List Expr} (pos : Pos) (env : Env), (xs.all plainX = true) → (backTo pos (starEach xs env)).any (·.1) = false
  | [], _, _, _ => rfl
  | x :: xs, pos, env, h => by
    rw [List.all_cons, Bool.and_eq_true] at h
    rw [star_plain h.1]
    show (false || (backTo pos (starEach xs env)).any (·.1)) = false
    rw [Bool.false_or]
    exact back_plain pos env h.2
theorem ix_plain {b : Expr} (h : plainX b = true) : PlainIx b := by
  intro o i
  cases b <;> first | rfl | (cases h)
theorem asg_sub {o i : Expr} {pos : Pos} {env : Env} (h : plainX i = true) : ∀ v, assign (.Subscript o i pos) env v = (do
      let ov ← holding [v] (eval o env)
      let iv ← holding [v, ov] (eval i env)
      standAt pos
      holding [v, ov, iv] (setItem ov iv v)
      release [v, ov, iv] []) := by
  intro v
  cases i <;> first | rfl | (cases h)
theorem folded_plain {x : Expr} (h : plainX x = true) (env : Env) : ∀ v, foldedSetIterable x env v = pure v := by
  intro v
  cases x <;> first | rfl | (cases h)
theorem mark_plain {b : Expr} (h : plainX b = true) (op : CmpOp) : behindInMarks op b = false := by
  cases b <;> first | rfl | (cases h)
theorem swaps_no {x : Expr} (h : notLc x = true) (t : Option Expr) (l : Nat) (env : Env) : swapsWith x t l env = pure false := by
  cases x <;> first | rfl | (cases h)
theorem stores_no {ts : List Expr} {x : Expr} (h : (match x with | .Tuple .. => false | _ => true) = true) (env : Env) : swappedStores ts x env = pure none := by
  unfold swappedStores
  cases x <;> first | (cases h; done) | (cases ts with
    | nil => rfl
    | cons t ts => cases t <;> cases ts <;> rfl)
theorem base_plain {o : Expr} (h : notCall0 o = true) (attr : Str) (env : Env) (w : Sem Value) : attributeBase o attr env w = w := by
  unfold attributeBase
  split
  · rename_i id p pos
    cases h
  · rfl
theorem truth_plain {e : Expr} (h : testX e = true) (env : Env) : ∀ whole, isTrue e env whole = (do let v ← whole; standAt e.pos; holding [v] (truthy v)) := by
  intro whole
  cases e <;> first | rfl | (cases h; done) | skip
  case UnaryOp op x pos => cases op <;> first | rfl | (cases h)
theorem assign_plain {t : Expr} (h : plainX t = true) (ts : List Expr) (env : Env) : assignEach (t :: ts) env = (false, assign t env) :: assignEach ts env := by
  cases t <;> first | rfl | (cases h)
end DL

set_option Elab.async false
set_option linter.all false
set_option maxRecDepth 100000
set_option maxHeartbeats 1000000
/-! DL3: operations by values. -/
namespace DL
open PySem PySem.Spec PyProof.Rows L2

structure Rel (W : Wd) (ρ : Rho) (S : Store) (m : Mp) (σ : L2.St) (H : Hp) : Prop where
  len : ρ.length = σ.length
  val : ∀ (i : Nat) (d : D), ρ[i]? = some (some d) → ∃ v, σ[i]? = some (some v) ∧ RepV W.K m H d v
  st : RelS W S m H
section
variable {W : Wd} {ρ : Rho} {S S' : Store} {m m' : Mp} {σ : L2.St} {H H' : Hp} {d : D} {v : V}
theorem Rel.ext (r : Rel W ρ S m σ H) (e : Ext m H m' H') (s : RelS W S' m' H') : Rel W ρ S' m' σ H' :=
  ⟨r.len, fun i d h => let ⟨v, h1, h2⟩ := r.val i d h; ⟨v, h1, h2.ext e⟩, s⟩
theorem Rel.set (r : Rel W ρ S m σ H) (q : RepV W.K m H d v) (i : Nat) : Rel W (ρ.set i (some d)) S m (σ.set i (some v)) H := by
  refine ⟨by rw [List.length_set, List.length_set]; exact r.len, fun j x h => ?_, r.st⟩
  by_cases hj : j = i
  · subst hj
    have hl : j < ρ.length := by
      have := (List.getElem?_eq_some_iff.mp h).1
      rw [List.length_set] at this; exact this
    rw [List.getElem?_set_self hl] at h
    cases h
    exact ⟨v, List.getElem?_set_self (by rw [← r.len]; exact hl), q⟩
  · rw [List.getElem?_set_ne (Ne.symm hj)] at h
    obtain ⟨w, h1, h2⟩ := r.val j x h
    exact ⟨w, by rw [List.getElem?_set_ne (Ne.symm hj)]; exact h1, h2⟩
theorem wipeD_length (ρ : Rho) : ∀ vs : List Nat, (wipeD ρ vs).length = ρ.length
  | [] => rfl
  | v :: vs => by unfold wipeD; rw [List.length_set, wipeD_length ρ vs]
theorem Rel.wipe (r : Rel W ρ S m σ H) : ∀ vs : List Nat, Rel W (wipeD ρ vs) S m (L2.wipe σ vs) H
  | [] => r
  | i :: vs => by
    have ih := Rel.wipe r vs
    refine ⟨by unfold wipeD L2.wipe; rw [List.length_set, List.length_set]; exact ih.len, fun j x h => ?_, r.st⟩
    unfold wipeD at h
    unfold L2.wipe
    by_cases hj : j = i
    · subst hj
      by_cases hl : j < (wipeD ρ vs).length
      · rw [List.getElem?_set_self hl] at h; cases h
      · rw [List.getElem?_eq_none (by rw [List.length_set]; omega)] at h; cases h
    · rw [List.getElem?_set_ne (Ne.symm hj)] at h
      obtain ⟨w, h1, h2⟩ := ih.val j x h
      exact ⟨w, by rw [List.getElem?_set_ne (Ne.symm hj)]; exact h1, h2⟩
end

/-! ### readings over data -/
abbrev FE := Rho → Store → RE → Prop
def tD (W : Wd) (f : FE) : TE := fun σ H Q => ∃ ρ S m R, Rel W ρ S m σ H ∧ f ρ S R ∧ ∀ d S' m' H' v, R d S' → Ext m H m' H' → RelS W S' m' H' → RepV W.K m' H' d v → Q v H'
def tT (W : Wd) (f : FE) : TT := fun σ H Q => ∃ ρ S m R, Rel W ρ S m σ H ∧ f ρ S R ∧ ∀ d S' m' H', R d S' → Ext m H m' H' → RelS W S' m' H' → ∃ k, d = .bl k ∧ Q k H'
def tDs (W : Wd) (f : Rho → Store → (List D → Store → Prop) → Prop) : TA := fun σ H Q => ∃ ρ S m R, Rel W ρ S m σ H ∧ f ρ S R ∧ ∀ ds S' m' H' vs, R ds S' → Ext m H m' H' → RelS W S' m' H' → RepVs W.K m' H' ds vs → Q vs H'
theorem pe_imp {X : Cx} {e : Expr} {t t' : TE} (h : PE X e t) (hi : ∀ σ H Q, t' σ H Q → t σ H Q) : PE X e t' := ⟨fun pins s σ H Q I q => h.run pins s σ H Q I (hi σ H Q q)⟩
theorem pt_imp {X : Cx} {e : Expr} {t t' : TT} (h : PT X e t) (hi : ∀ σ H Q, t' σ H Q → t σ H Q) : PT X e t' := ⟨fun pins s σ H Q I q => h.run pins s σ H Q I (hi σ H Q q)⟩
theorem pw_imp {X : Cx} {e : Expr} {t t' : TT} (h : PW X e t) (hi : ∀ σ H Q, t' σ H Q → t σ H Q) : PW X e t' := ⟨fun wh pins s σ H Q I q => h.run wh pins s σ H Q I (hi σ H Q q)⟩
theorem pa_imp {X : Cx} {e : List Expr} {t t' : TA} (h : PA X e t) (hi : ∀ σ H Q, t' σ H Q → t σ H Q) : PA X e t' := ⟨fun pos pins s σ H Q I q => h.run pos pins s σ H Q I (hi σ H Q q)⟩
theorem ps_imp {X : Cx} {e : Stmt} {t t' : TS} (h : PS X e t) (hi : ∀ Dv σ H, t' Dv σ H → t Dv σ H) : PS X e t' := ⟨fun pins s σ H Dv I q => h.run pins s σ H Dv I (hi Dv σ H q)⟩

/-- a value's end: the data d' comes, what stands stays -/
def Fin (W : Wd) (S : Store) (m : Mp) (H : Hp) (R : D → Prop) (Q : VK) : Prop := ∀ d', R d' → ∀ v H', Ext m H m H' → RelS W S m H' → RepV W.K m H' d' v → Q v H'
def rV1 (W : Wd) (P : Store → D → (D → Prop) → Prop) : V → Hp → VK → Prop := fun x H Q => ∃ S m d R, RelS W S m H ∧ RepV W.K m H d x ∧ P S d R ∧ Fin W S m H R Q
def rV2 (W : Wd) (P : Store → D → D → (D → Prop) → Prop) : R2 := fun x y H Q => ∃ S m d e R, RelS W S m H ∧ RepV W.K m H d x ∧ RepV W.K m H e y ∧ P S d e R ∧ Fin W S m H R Q
def rVs (W : Wd) (P : Store → List D → (D → Prop) → Prop) : List V → Hp → VK → Prop := fun xs H Q => ∃ S m ds R, RelS W S m H ∧ RepVs W.K m H ds xs ∧ P S ds R ∧ Fin W S m H R Q
section
variable {W : Wd} {S : Store} {m : Mp} {H : Hp} {R : D → Prop} {Q : VK} {d : D} {ds es : List D} {v x y : V} {vs : List V} {a p : Addr}
theorem Fin.now (f : Fin W S m H R Q) (r : RelS W S m H) (h : R d) (q : RepV W.K m H d v) : Q v H := f d h v H Ext.refl r q
theorem Fin.tup (f : Fin W S m H R Q) (r : RelS W S m H) (h : R (.tup ds)) (q : RepVs W.K m H ds vs) (hp : H p = none) : Q (.ref p) (upd H p (.tup vs)) :=
  f _ h _ _ (Ext.laid hp _) (r.laid hp _) ⟨p, vs, rfl, .inl upd_same, q.ext (Ext.laid hp _)⟩
theorem Fin.lst (f : Fin W S m H R Q) (r : RelS W S m H) (h : R (.fl ds)) (q : RepVs W.K m H ds vs) (hp : H p = none) : Q (.ref p) (upd H p (.lst vs)) :=
  f _ h _ _ (Ext.laid hp _) (r.laid hp _) ⟨p, vs, rfl, r.fresh hp, upd_same, q.ext (Ext.laid hp _)⟩
/-- what a row of data is in the heap -/
def IsSeq (K : PySem.W.Frag) (H : Hp) (d : D) (x : V) (vs : List V) : Prop := ∃ a, x = .ref a ∧ ((SqL K H a vs ∧ ∀ xs, d ≠ .tup xs) ∨ (TupAt K H a vs ∧ ∃ xs, d = .tup xs))
theorem RepVs.ints : ∀ (ns : List Int), RepVs W.K m H (ns.map D.int) (ns.map V.int)
  | [] => RepVs.nil
  | n :: ns => RepVs.cons (show RepV W.K m H (.int n) (.int n) from rfl) (RepVs.ints ns)
theorem seq_rep (r : RelS W S m H) (q : RepV W.K m H d x) (h : seqOf S d = some ds) : ∃ vs, IsSeq W.K H d x vs ∧ RepVs W.K m H ds vs := by
  cases d with
  | tup xs =>
    obtain ⟨a, vs, rfl, h1, h2⟩ := q
    cases h
    exact ⟨vs, ⟨a, rfl, .inr ⟨h1, _, rfl⟩⟩, h2⟩
  | fl xs =>
    obtain ⟨a, vs, rfl, _, h1, h2⟩ := q
    cases h
    exact ⟨vs, ⟨a, rfl, .inl ⟨SqL.of h1, fun _ z => nomatch z⟩⟩, h2⟩
  | scr ns =>
    obtain ⟨a, rfl, h1⟩ := q
    cases h
    exact ⟨_, ⟨a, rfl, .inl ⟨h1.sq, fun _ z => nomatch z⟩⟩, RepVs.ints ns⟩
  | ref n =>
    obtain ⟨a, h1, rfl⟩ := q
    dsimp only [seqOf] at h
    cases hs : S[n]? with
    | none => rw [hs] at h; cases h
    | some o =>
      rw [hs] at h
      cases o with
      | lst xs =>
        cases h
        obtain ⟨vs, h2, h3⟩ := r.ob n _ a hs h1
        exact ⟨vs, ⟨a, rfl, .inl ⟨SqL.of h2, fun _ z => nomatch z⟩⟩, h3⟩
      | dct l kvs => cases h
      | dctN l kvs => cases h
      | ins c fs => cases h
  | _ => cases h
theorem IsSeq.lst {K : PySem.W.Frag} (h : IsSeq K H d x vs) (n : ∀ xs, d ≠ .tup xs) : ∃ a, x = .ref a ∧ SqL K H a vs := by
  obtain ⟨a, e, q | ⟨_, xs, z⟩⟩ := h
  · exact ⟨a, e, q.1⟩
  · exact absurd z (n xs)
theorem IsSeq.any {K : PySem.W.Frag} (h : IsSeq K H d x vs) : ∃ a, x = .ref a ∧ (SqL K H a vs ∨ SqT K H a vs) := by
  obtain ⟨a, e, q | q⟩ := h
  · exact ⟨a, e, .inl q.1⟩
  · exact ⟨a, e, .inr q.1.sq⟩
theorem intsOf_eq : ∀ {ds : List D} {ns : List Int}, intsOf ds = some ns → ds = ns.map D.int
  | [], ns, h => by cases h; rfl
  | .int i :: ds, ns, h => by
    unfold intsOf at h
    cases q : intsOf ds with
    | none => rw [q] at h; cases h
    | some ms => rw [q] at h; cases h; rw [List.map_cons, ← intsOf_eq q]
  | .non :: ds, ns, h => by cases h
  | .bl _ :: ds, ns, h => by cases h
  | .str _ :: ds, ns, h => by cases h
  | .tup _ :: ds, ns, h => by cases h
  | .fl _ :: ds, ns, h => by cases h
  | .scr _ :: ds, ns, h => by cases h
  | .ref _ :: ds, ns, h => by cases h
theorem blsOf_eq : ∀ {ds : List D} {ns : List Bool}, blsOf ds = some ns → ds = ns.map D.bl
  | [], ns, h => by cases h; rfl
  | .bl i :: ds, ns, h => by
    unfold blsOf at h
    cases q : blsOf ds with
    | none => rw [q] at h; cases h
    | some ms => rw [q] at h; cases h; rw [List.map_cons, ← blsOf_eq q]
  | .non :: ds, ns, h => by cases h
  | .int _ :: ds, ns, h => by cases h
  | .str _ :: ds, ns, h => by cases h
  | .tup _ :: ds, ns, h => by cases h
  | .fl _ :: ds, ns, h => by cases h
  | .scr _ :: ds, ns, h => by cases h
  | .ref _ :: ds, ns, h => by cases h
theorem RepVs.ints_inv : ∀ {ns : List Int} {vs : List V}, RepVs W.K m H (ns.map D.int) vs → vs = ns.map V.int
  | [], vs, h => by unfold RepVs at h; exact h
  | n :: ns, vs, h => by
    rw [List.map_cons] at h
    unfold RepVs at h
    obtain ⟨v, r, rfl, h1, h2⟩ := h
    rw [List.map_cons, RepVs.ints_inv h2, show v = .int n from h1]
theorem RepVs.bls_inv : ∀ {ns : List Bool} {vs : List V}, RepVs W.K m H (ns.map D.bl) vs → vs = ns.map V.bl
  | [], vs, h => by unfold RepVs at h; exact h
  | n :: ns, vs, h => by
    rw [List.map_cons] at h
    unfold RepVs at h
    obtain ⟨v, r, rfl, h1, h2⟩ := h
    rw [List.map_cons, RepVs.bls_inv h2, show v = .bl n from h1]
mutual
theorem dp_of : ∀ (d : D) (a : PyData) (v : V), toPy d = some a → RepV W.K m H d v → Dp W.K H v a
  | .non, a, v, h, q => by cases h; rw [show v = .non from q]; exact .non
  | .bl b, a, v, h, q => by cases h; rw [show v = .bl b from q]; exact .bl b
  | .int b, a, v, h, q => by cases h; rw [show v = .int b from q]; exact .int b
  | .str b, a, v, h, q => by cases h; rw [show v = .str b from q]; exact .str b
  | .tup ds, a, v, h, q => by
    unfold toPy at h
    cases e : toPys ds with
    | none => rw [e] at h; cases h
    | some xs =>
      rw [e] at h; cases h
      obtain ⟨p, vs, rfl, h1, h2⟩ := q
      exact .tup h1.sq (dps_of ds xs vs e h2)
  | .fl ds, a, v, h, q => by
    unfold toPy at h
    cases e : toPys ds with
    | none => rw [e] at h; cases h
    | some xs =>
      rw [e] at h; cases h
      obtain ⟨p, vs, rfl, _, h1, h2⟩ := q
      exact .lst (SqL.of h1) (dps_of ds xs vs e h2)
  | .scr ns, a, v, h, q => by
    unfold toPy at h
    cases h
    obtain ⟨p, rfl, h1⟩ := q
    exact .lst h1.sq (dps_ints ns)
  | .ref n, a, v, h, q => by cases h
theorem dps_of : ∀ (ds : List D) (as : List PyData) (vs : List V), toPys ds = some as → RepVs W.K m H ds vs → DpAll W.K H vs as
  | [], as, vs, h, q => by
    unfold RepVs at q; subst q; cases h; exact .nil
  | d :: ds, as, vs, h, q => by
    unfold RepVs at q
    obtain ⟨v, r, rfl, h1, h2⟩ := q
    unfold toPys at h
    cases e : toPy d with
    | none => rw [e] at h; cases h
    | some x =>
      cases e2 : toPys ds with
      | none => rw [e, e2] at h; cases h
      | some xs =>
        rw [e, e2] at h; cases h
        exact .cons (dp_of d x v e h1) (dps_of ds xs r e2 h2)
theorem dps_ints : ∀ (ns : List Int), DpAll W.K H (ns.map V.int) (ns.map PyData.int)
  | [] => .nil
  | n :: ns => .cons (.int n) (dps_ints ns)
end
end

section
variable {W : Wd} {X : Cx} (hK : X.K = W.K)
include hK
theorem op_bin {k : Nat} (hr : Room k X.A) (o : Operator) : OpR X (binaryOp o) (rV2 W fun S x y R => binP S o x y R) := by
  intro pins s σ H x y v u Q I rx ry h
  obtain ⟨S, m, d, e, R, rs, qx, qy, hP, fin⟩ := h
  unfold binP at hP
  split at hP
  · obtain rfl : x = .int _ := qx
    obtain rfl : y = .int _ := qy
    exact op_add pins s σ H _ _ v u Q I rx ry ⟨_, _, rfl, rfl, fin.now rs hP rfl⟩
  · obtain ⟨a, vs, rfl, h1, h2⟩ := qx
    obtain ⟨b, ws, rfl, h3, h4⟩ := qy
    refine op_catA pins s σ H _ _ v u Q I rx ry ⟨a, b, vs, ws, rfl, rfl, by rw [hK]; exact h1.sq, by rw [hK]; exact h3.sq, by rw [h2.length, h4.length]; exact hP.1, fun z => ?_, fun z z' => ?_, fun _ _ p hp => ?_⟩
    · have z' := h2.nil_iff.mp z
      refine fin.now rs hP.2 ⟨b, ws, rfl, h3, ?_⟩
      rw [z']; exact h4
    · have z'' := h4.nil_iff.mp z'
      refine fin.now rs hP.2 ⟨a, vs, rfl, h1, ?_⟩
      rw [z'', List.append_nil]; exact h2
    · exact fin.tup rs hP.2 (h2.append h4) hp
  · obtain ⟨a, vs, rfl, _, h1, h2⟩ := qx
    obtain ⟨b, ws, rfl, _, h3, h4⟩ := qy
    exact op_cat pins s σ H _ _ v u Q I rx ry ⟨a, b, vs, ws, rfl, rfl, h1, h3, by rw [h2.length, h4.length]; exact hP.1, fun p hp => fin.lst rs hP.2 (h2.append h4) hp⟩
  · obtain rfl : x = .str _ := qx
    obtain rfl : y = .str _ := qy
    exact op_add_str pins s σ H _ _ v u Q I rx ry ⟨_, _, rfl, rfl, hP.1, fin.now rs hP.2 rfl⟩
  · obtain rfl : x = .int _ := qx
    obtain rfl : y = .int _ := qy
    exact op_sub pins s σ H _ _ v u Q I rx ry ⟨_, _, rfl, rfl, fin.now rs hP rfl⟩
  · obtain rfl : x = .int _ := qx
    obtain rfl : y = .int _ := qy
    rcases hP.1 with hC | hC
    · exact op_mulW pins s σ H _ _ v u Q I rx ry ⟨_, _, rfl, rfl, hC, fin.now rs hP.2 rfl⟩
    · exact op_mul pins s σ H _ _ v u Q I rx ry ⟨_, _, rfl, rfl, hC, fin.now rs hP.2 rfl⟩
  · obtain ⟨a, vs, rfl, _, h1, h2⟩ := qx
    obtain rfl : y = .int _ := qy
    obtain ⟨g1, g2, g3, g4⟩ := hP
    refine op_rep pins s σ H _ _ v u Q I rx ry ⟨a, _, vs, rfl, rfl, h1, by omega, g2, by rw [h2.length]; exact g3, fun p hp => fin.lst rs g4 ?_ hp⟩
    generalize Int.toNat _ = n
    induction n with
    | zero => exact RepVs.nil
    | succ n ih => rw [List.replicate_succ, List.replicate_succ, List.flatten_cons, List.flatten_cons]; exact h2.append ih
  · obtain rfl : x = .int _ := qx
    obtain rfl : y = .int _ := qy
    exact op_fdivW pins s σ H _ _ v u Q I rx ry ⟨_, _, rfl, rfl, hP.1, fin.now rs hP.2 rfl⟩
  · obtain rfl : x = .int _ := qx
    obtain rfl : y = .int _ := qy
    exact op_mod pins s σ H _ _ v u Q I rx ry ⟨_, _, rfl, rfl, hP.1, fin.now rs hP.2 rfl⟩
  · obtain rfl : x = .int _ := qx
    obtain rfl : y = .int _ := qy
    exact op_pow pins s σ H _ _ v u Q I rx ry ⟨_, _, rfl, rfl, hP.1, fin.now rs hP.2 rfl⟩
  · obtain rfl : x = .int _ := qx
    obtain rfl : y = .int _ := qy
    exact op_shl pins s σ H _ _ v u Q I rx ry ⟨_, _, rfl, rfl, hP.1, fin.now rs hP.2 rfl⟩
  · obtain rfl : x = .int _ := qx
    obtain rfl : y = .int _ := qy
    exact op_shr pins s σ H _ _ v u Q I rx ry ⟨_, _, rfl, rfl, hP.1, fin.now rs hP.2 rfl⟩
  · obtain rfl : x = .int _ := qx
    obtain rfl : y = .int _ := qy
    exact op_and pins s σ H _ _ v u Q I rx ry ⟨_, _, rfl, rfl, fin.now rs hP rfl⟩
  · cases hP
end
end DL

set_option Elab.async false
set_option linter.all false
set_option maxRecDepth 100000
set_option maxHeartbeats 1000000
/-! DL3N: dicts whose keys are tuples. -/
namespace DL
open PySem PySem.Spec PyProof.Rows L2

section
variable {W : Wd} {X : Cx} {pins : List (Addr × Obj)} {σ : L2.St} {s : Shared} {m : Mp} {H : Hp} (hK : X.K = W.K)
include hK
mutual
theorem nk_of (I : L2.Inv X pins σ H s) : ∀ (d : D) (k : NestedKey) (v : V) (u : Value), toNK d = some k → RepV W.K m H d v → L2.RelV v u → NestedIs s.heap k u
  | .non, k, v, u, h, q, r => by
    cases h
    obtain rfl : v = .non := q
    cases r
    exact .none
  | .int i, k, v, u, h, q, r => by
    cases h
    obtain rfl : v = .int i := q
    obtain ⟨t, rfl⟩ := r
    exact .int i t
  | .str x, k, v, u, h, q, r => by
    cases h
    obtain rfl : v = .str x := q
    obtain ⟨t, rfl⟩ := r
    exact .text x t
  | .tup ds, k, v, u, h, q, r => by
    unfold toNK at h
    cases e : toNKs ds with
    | none => rw [e] at h; cases h
    | some ks =>
      rw [e] at h; cases h
      obtain ⟨a, vs, rfl, h1, h2⟩ := q
      cases r
      obtain ⟨its, rv, ⟨o, ho, hc, n, hd⟩, _⟩ := I.tuple (show SqT X.K H a vs by rw [hK]; exact h1.sq)
      exact .tup ho hc hd (by simpa using nks_of I ds ks vs its e h2 rv)
  | .bl b, k, v, u, h, q, r => by cases h
  | .fl b, k, v, u, h, q, r => by cases h
  | .scr b, k, v, u, h, q, r => by cases h
  | .ref b, k, v, u, h, q, r => by cases h
theorem nks_of (I : L2.Inv X pins σ H s) : ∀ (ds : List D) (ks : List NestedKey) (vs : List V) (us : List Value), toNKs ds = some ks → RepVs W.K m H ds vs → Vals vs us → NestedAll s.heap ks us
  | [], ks, vs, us, h, q, r => by
    cases h
    unfold RepVs at q
    subst q
    cases r
    exact .nil
  | d :: ds, ks, vs, us, h, q, r => by
    unfold RepVs at q
    obtain ⟨v, t, rfl, h1, h2⟩ := q
    cases r with
    | cons r1 r2 =>
      unfold toNKs at h
      cases e : toNK d with
      | none => rw [e] at h; cases h
      | some x =>
        cases e2 : toNKs ds with
        | none => rw [e, e2] at h; cases h
        | some xs =>
          rw [e, e2] at h; cases h
          exact .cons (nk_of I d x v _ e h1 r1) (nks_of I ds xs t _ e2 h2 r2)
end
end
mutual
theorem toNK_un : ∀ (d : D) (k : NestedKey), toNK d = some k → unNK k = d
  | .non, k, h => by cases h; rfl
  | .int i, k, h => by cases h; rfl
  | .str x, k, h => by cases h; rfl
  | .tup ds, k, h => by
    unfold toNK at h
    cases e : toNKs ds with
    | none => rw [e] at h; cases h
    | some ks => rw [e] at h; cases h; show D.tup (unNK.unNKs ks) = _; rw [toNKs_un ds ks e]
  | .bl b, k, h => by cases h
  | .fl b, k, h => by cases h
  | .scr b, k, h => by cases h
  | .ref b, k, h => by cases h
theorem toNKs_un : ∀ (ds : List D) (ks : List NestedKey), toNKs ds = some ks → unNK.unNKs ks = ds
  | [], ks, h => by cases h; rfl
  | d :: ds, ks, h => by
    unfold toNKs at h
    cases e : toNK d with
    | none => rw [e] at h; cases h
    | some x =>
      cases e2 : toNKs ds with
      | none => rw [e, e2] at h; cases h
      | some xs =>
        rw [e, e2] at h; cases h
        show unNK x :: unNK.unNKs xs = _
        rw [toNK_un d x e, toNKs_un ds xs e2]
end
mutual
theorem un_toNK : ∀ k : NestedKey, toNK (unNK k) = some k
  | .none => rfl
  | .num i => rfl
  | .text x => rfl
  | .tup ks => by
    show (match toNKs (unNK.unNKs ks) with | some ks => some (NestedKey.tup ks) | none => none) = _
    rw [un_toNKs ks]
theorem un_toNKs : ∀ ks : List NestedKey, toNKs (unNK.unNKs ks) = some ks
  | [] => rfl
  | k :: ks => by
    show (match toNK (unNK k), toNKs (unNK.unNKs ks) with | some k, some ks => some (k :: ks) | _, _ => none) = _
    rw [un_toNK k, un_toNKs ks]
end
theorem keyN_of {d : D} {k : NestedKey} (h : keyN d = some k) : (∃ ds, d = .tup ds) ∧ toNK d = some k ∧ k.depth ≤ 8 := by
  unfold keyN at h
  cases d with
  | tup ds =>
    dsimp only at h
    cases e : toNK (.tup ds) with
    | none => rw [e] at h; cases h
    | some k' =>
      rw [e] at h
      dsimp only at h
      split at h
      · cases h; exact ⟨⟨ds, rfl⟩, rfl, by assumption⟩
      · cases h
  | _ => cases h

theorem pget {α β : Type} {F : α → β → Prop} : ∀ {xs : List α} {ys : List β} {i : Nat} {y : β}, Paired F xs ys → ys[i]? = some y → ∃ x, xs[i]? = some x ∧ F x y
  | _, _, _, _, .nil, e => by simp at e
  | _, _, 0, _, .cons r _, e => by simp at e; subst e; exact ⟨_, rfl, r⟩
  | _, _, i + 1, y, .cons _ t, e => by
    obtain ⟨x, h1, h2⟩ := pget (i := i) t (by simpa using e)
    exact ⟨x, by simpa using h1, h2⟩
abbrev YP : NestedKey × Addr × V → NestedKey × Addr × Value → Prop := fun x y => x.1 = y.1 ∧ x.2.1 = y.2.1 ∧ L2.RelV x.2.2 y.2.2
section
variable {W : Wd} {X : Cx} {pins : List (Addr × Obj)} {σ : L2.St} {s : Shared} {S : Store} {m : Mp} {H : Hp} {a : Addr} {kvs : List (NestedKey × D)} {xs : List (NestedKey × Addr × V)} (hK : X.K = W.K) (hP : X.prog = W.P) (hw : X.w = W.w)
include hK hP hw
/-- the dict as the library tells it -/
theorem ndic_at (I : L2.Inv X pins σ H s) (h : Rd H a (NDic W.P W.w a xs)) (r : RepNs W.K m H kvs xs) : xs.length ≤ sizeLine ∧ (a == sysModules) = false ∧
    ∃ ys, Paired YP xs ys ∧ s.heap.DictOfH (nestedKind X.prog X.w) a ys := by
  have ok : ObjOk X.prog X.w H s.heap a (NDic W.P W.w a xs) := h.ok I.hok
  obtain ⟨⟨z, hs, ys, py, o, es, ep, ho, hx, hd, he, hn⟩, _, _⟩ := ok
  refine ⟨z, hs, ys, py, o, es, ep, ho, hx, hd, by rw [hP, hw]; exact he, fun y hy => ?_, hn⟩
  obtain ⟨i, hi⟩ := List.mem_iff_getElem?.mp hy
  obtain ⟨x, hxi, e1, e2, e3⟩ := pget py hi
  obtain ⟨r1, r2, r3, r4⟩ := r
  have k1 : (kvs.map (·.1))[i]? = some x.1 := by rw [r1, List.getElem?_map, hxi]; rfl
  obtain ⟨kv, hkv, ek⟩ : ∃ kv, kvs[i]? = some kv ∧ kv.1 = x.1 := by
    rw [List.getElem?_map] at k1
    cases q : kvs[i]? with
    | none => rw [q] at k1; cases k1
    | some kv => rw [q] at k1; exact ⟨kv, rfl, Option.some.inj k1⟩
  have k2 : (kvs.map fun kv => unNK kv.1)[i]? = some (unNK x.1) := by rw [List.getElem?_map, hkv, ← ek]; rfl
  obtain ⟨v, hv, rv⟩ := r2.get k2
  rw [List.getElem?_map, hxi] at hv
  obtain rfl := Option.some.inj hv
  refine ⟨?_, by rw [← e1, ← ek]; exact r4 kv (List.mem_of_getElem? hkv)⟩
  have := nk_of hK I (unNK x.1) x.1 (.ref x.2.1) (.ref y.2.1) (un_toNK _) rv (by rw [e2]; rfl)
  rw [← e1]; exact this
theorem key_is (I : L2.Inv X pins σ H s) {d : D} {k : NestedKey} {x : V} (h : keyN d = some k) (q : RepV W.K m H d x) : ∃ b, x = .ref b ∧ (nestedKind X.prog X.w).is s.heap k b := by
  obtain ⟨⟨ds, rfl⟩, h1, h2⟩ := keyN_of h
  have q' := q
  obtain ⟨b, vs, rfl, h3, h4⟩ := q
  exact ⟨b, rfl, nk_of hK I _ k (.ref b) (.ref b) h1 q' rfl, h2⟩
end
theorem look_repN {W : Wd} {m : Mp} {H : Hp} {k : NestedKey} : ∀ {kvs : List (NestedKey × D)} {xs : List (NestedKey × Addr × V)} {ys : List (NestedKey × Addr × Value)}, kvs.map (·.1) = xs.map (·.1) → RepVs W.K m H (kvs.map (·.2)) (xs.map fun x => x.2.2) → Paired YP xs ys →
    (∀ d, lookD kvs k = some d → ∃ p v, atKey ys k = some p ∧ L2.RelV v p.2 ∧ RepV W.K m H d v) ∧ (lookD kvs k = none → atKey ys k = none)
  | [], [], _, _, _, .nil => ⟨(fun _ h => by cases h), fun _ => rfl⟩
  | [], _ :: _, _, e, _, _ => nomatch e
  | _ :: _, [], _, e, _, _ => nomatch e
  | (k1, d1) :: kvs, (k2, b2, v2) :: xs, (k3, b3, u3) :: ys, e, r, .cons p t => by
    rw [List.map_cons, List.map_cons] at e
    obtain ⟨e1, e2⟩ := List.cons.inj e
    rw [List.map_cons, List.map_cons] at r
    unfold RepVs at r
    obtain ⟨v, t', e3, r1, r2⟩ := r
    obtain ⟨rfl, rfl⟩ := List.cons.inj e3
    obtain ⟨p1, p2, p3⟩ := p
    obtain rfl : k1 = k2 := e1
    obtain rfl : k1 = k3 := p1
    by_cases h : k1 = k
    · refine ⟨fun d hd => ?_, fun hd => ?_⟩
      · simp [lookD, List.find?_cons, h] at hd
        subst hd
        exact ⟨(b3, u3), v2, by simp [atKey, List.find?_cons, h], p3, r1⟩
      · simp [lookD, List.find?_cons, h] at hd
    · obtain ⟨i1, i2⟩ := look_repN (k := k) e2 r2 t
      have e4 : lookD ((k1, d1) :: kvs) k = lookD kvs k := by simp [lookD, List.find?_cons, h]
      have e5 : atKey ((k1, b3, u3) :: ys) k = atKey ys k := by simp [atKey, List.find?_cons, h]
      rw [e4, e5]
      exact ⟨i1, i2⟩

/-- the entries with one stored -/
def putX (xs : List (NestedKey × Addr × V)) (k : NestedKey) (b : Addr) (v : V) : List (NestedKey × Addr × V) :=
  if (xs.any fun x => decide (x.1 = k)) = true then xs.map (fun x => if x.1 = k then (x.1, x.2.1, v) else x) else xs ++ [(k, b, v)]
theorem any_keys {k : NestedKey} : ∀ {kvs : List (NestedKey × D)} {xs : List (NestedKey × Addr × V)}, kvs.map (·.1) = xs.map (·.1) → (kvs.any fun kv => decide (kv.1 = k)) = xs.any fun x => decide (x.1 = k)
  | [], [], _ => rfl
  | [], _ :: _, e => nomatch e
  | _ :: _, [], e => nomatch e
  | a :: kvs, b :: xs, e => by
    rw [List.map_cons, List.map_cons] at e
    obtain ⟨e1, e2⟩ := List.cons.inj e
    rw [List.any_cons, List.any_cons, any_keys e2, e1]
theorem any_pair {k : NestedKey} : ∀ {xs : List (NestedKey × Addr × V)} {ys : List (NestedKey × Addr × Value)}, Paired YP xs ys → (xs.any fun x => decide (x.1 = k)) = (atKey ys k).isSome
  | _, _, .nil => rfl
  | _, _, .cons (a := a) (b := b) p t => by
    rw [List.any_cons, any_pair t]
    by_cases h : b.1 = k
    · have h' : a.1 = k := p.1.trans h
      simp [atKey, List.find?_cons, h, h']
    · have h' : ¬ a.1 = k := fun z => h (p.1.symm.trans z)
      simp [atKey, List.find?_cons, h, h']
theorem putX_pair {k : NestedKey} {b : Addr} {v : V} {u : Value} (r : L2.RelV v u) {xs : List (NestedKey × Addr × V)} {ys : List (NestedKey × Addr × Value)} (p : Paired YP xs ys) : Paired YP (putX xs k b v) (storedH ys k b u) := by
  unfold putX storedH
  rw [any_pair p]
  split
  · rename_i hh
    clear hh
    induction p with
    | nil => exact .nil
    | cons h t ih =>
      rw [List.map_cons, List.map_cons]
      refine .cons ?_ ih
      rename_i x y _ _
      unfold putAt
      by_cases e : y.1 = k
      · rw [if_pos e, if_pos (h.1.trans e)]
        exact ⟨h.1, h.2.1, r⟩
      · rw [if_neg e, if_neg (fun z => e (h.1.symm.trans z))]
        exact h
  · rename_i hh
    clear hh
    induction p with
    | nil => exact .cons ⟨rfl, rfl, r⟩ .nil
    | cons h t ih => exact .cons h ih
theorem putX_len (xs : List (NestedKey × Addr × V)) (k : NestedKey) (b : Addr) (v : V) : (putX xs k b v).length ≤ xs.length + 1 := by
  unfold putX
  split
  · rw [List.length_map]; omega
  · rw [List.length_append]; exact Nat.le_refl _
theorem putX_rep {W : Wd} {m : Mp} {H : Hp} {k : NestedKey} {b : Addr} {d : D} {v : V} {kvs : List (NestedKey × D)} {xs : List (NestedKey × Addr × V)} (r : RepNs W.K m H kvs xs) (hk : RepV W.K m H (unNK k) (.ref b)) (h8 : k.depth ≤ 8) (hv : RepV W.K m H d v) :
    RepNs W.K m H (putD kvs k d) (putX xs k b v) := by
  obtain ⟨r1, r2, r3, r4⟩ := r
  unfold putD putX
  rw [any_keys r1]
  split
  · rename_i hh
    refine ⟨?_, ?_, ?_, fun kv h => ?_⟩
    · rw [List.map_map, List.map_map]
      have e1 : ((fun x : NestedKey × D => x.1) ∘ fun kv : NestedKey × D => if kv.1 = k then (kv.1, d) else kv) = (·.1) := by
        funext kv; dsimp only [Function.comp]; split <;> rfl
      have e2 : ((fun x : NestedKey × Addr × V => x.1) ∘ fun x : NestedKey × Addr × V => if x.1 = k then (x.1, x.2.1, v) else x) = (·.1) := by
        funext kv; dsimp only [Function.comp]; split <;> rfl
      rw [e1, e2, r1]
    · rw [List.map_map, List.map_map]
      have e1 : ((fun x : NestedKey × D => unNK x.1) ∘ fun kv : NestedKey × D => if kv.1 = k then (kv.1, d) else kv) = (fun x => unNK x.1) := by
        funext kv; dsimp only [Function.comp]; split <;> rfl
      have e2 : ((fun x : NestedKey × Addr × V => V.ref x.2.1) ∘ fun x : NestedKey × Addr × V => if x.1 = k then (x.1, x.2.1, v) else x) = (fun x => V.ref x.2.1) := by
        funext kv; dsimp only [Function.comp]; split <;> rfl
      rw [e1, e2]; exact r2
    · clear hh r2 r4
      revert xs
      induction kvs with
      | nil => intro xs r1 r3; cases xs with | nil => exact RepVs.nil | cons _ _ => cases r1
      | cons a kvs ih =>
        intro xs r1 r3
        cases xs with
        | nil => cases r1
        | cons x xs =>
          rw [List.map_cons, List.map_cons] at r1 r3
          obtain ⟨e1, e2⟩ := List.cons.inj r1
          unfold RepVs at r3
          obtain ⟨v', t', e3, q1, q2⟩ := r3
          obtain ⟨rfl, rfl⟩ := List.cons.inj e3
          simp only [List.map_cons]
          refine RepVs.cons ?_ (by simpa using ih e2 q2)
          by_cases e : a.1 = k
          · rw [if_pos e, if_pos (e1.symm.trans e)]; exact hv
          · rw [if_neg e, if_neg (fun z => e (e1.trans z))]; exact q1
    · obtain ⟨kv', hm, e⟩ := List.mem_map.mp h
      have := r4 kv' hm
      rw [← e]
      split
      · exact this
      · exact this
  · refine ⟨by rw [List.map_append, List.map_append, r1]; rfl, ?_, ?_, fun kv h => ?_⟩
    · rw [List.map_append, List.map_append]
      exact r2.append (RepVs.cons hk RepVs.nil)
    · rw [List.map_append, List.map_append]
      exact r3.append (RepVs.cons hv RepVs.nil)
    · rcases List.mem_append.mp h with h | h
      · exact r4 kv h
      · rw [List.mem_singleton.mp h]; exact h8
section
variable {W : Wd} {X : Cx} {pins : List (Addr × Obj)} {σ : L2.St} {s : Shared} {S : Store} {m : Mp} {H : Hp} {a b : Addr} {k : NestedKey} {kvs : List (NestedKey × D)} {xs : List (NestedKey × Addr × V)} {A : Around} {E : Value → Shared → Prop} (hK : X.K = W.K) (hP : X.prog = W.P) (hw : X.w = W.w)
include hK hP hw
theorem n_in (neg : Bool) {Q : Value → Shared → Prop} (hu : A.units + 9 < cLine) (I : L2.Inv X pins σ H s) (h : Rd H a (NDic W.P W.w a xs)) (r : RepNs W.K m H kvs xs) (hk : (nestedKind X.prog X.w).is s.heap k b)
    (q : ∀ s', L2.Inv X pins σ H s' → Q (.bool (if neg = true then !(lookD kvs k).isSome else (lookD kvs k).isSome)) s') : wpAny (model X.prog X.w) A (compareOp (if neg = true then .NotIn else .In) (.ref b) (.ref a)) Q E s := by
  obtain ⟨z, hs, ys, py, dd⟩ := ndic_at hK hP hw I h r
  have l := look_repN (k := k) r.1 r.2.2.1 py
  have el : (atKey ys k).isSome = (lookD kvs k).isSome := by
    cases q : lookD kvs k with
    | none => rw [l.2 q]; rfl
    | some d => obtain ⟨p, v, e, _⟩ := l.1 d q; rw [e]; rfl
  have hr : (nestedKind X.prog X.w).room A.in1 := by show A.units + 1 + 8 < cLine; omega
  cases neg with
  | true =>
    refine notIn_keyed (k := k) hr hk hs ⟨ys, dd, rfl⟩ ?_
    rw [valueAt_pairsH, Option.isSome_map, el]
    exact q _ (I.tok _)
  | false =>
    refine wpAny_in_heap hr hk hs dd ?_
    rw [el]
    exact q _ (I.tok _)
theorem n_get {Q : Value → Shared → Prop} {d : D} (hu : A.units + 9 < cLine) (I : L2.Inv X pins σ H s) (h : Rd H a (NDic W.P W.w a xs)) (r : RepNs W.K m H kvs xs) (hk : (nestedKind X.prog X.w).is s.heap k b) (hd : lookD kvs k = some d)
    (q : ∀ v u s', L2.Inv X pins σ H s' → L2.RelV v u → RepV W.K m H d v → Q u s') : wpAny (model X.prog X.w) A (getItem (.ref a) (.ref b)) Q E s := by
  obtain ⟨z, hs, ys, py, dd⟩ := ndic_at hK hP hw I h r
  obtain ⟨p, v, e, rv, rd⟩ := (look_repN (k := k) r.1 r.2.2.1 py).1 d hd
  have hr : (nestedKind X.prog X.w).room A.in1 := by show A.units + 1 + 8 < cLine; omega
  exact wpAny_getItem_heap hr hk dd e (q v _ _ (I.tok _) rv rd)
theorem n_put {Q : Unit → Shared → Prop} {v : V} {u : Value} (hu : A.units + 9 < cLine) (I : L2.Inv X pins σ H s) (h : H a = some (NDic W.P W.w a xs)) (r : RepNs W.K m H kvs xs) (hk : (nestedKind X.prog X.w).is s.heap k b) (hz : kvs.length < sizeLine) (rv : L2.RelV v u)
    (q : ∀ s', L2.Inv X pins σ (upd H a (NDic W.P W.w a (putX xs k b v))) s' → Q () s') : wpAny (model X.prog X.w) A (setItem (.ref a) (.ref b) u) Q E s := by
  obtain ⟨z, hs, ys, py, dd⟩ := ndic_at hK hP hw I (.inl h) r
  have hr : (nestedKind X.prog X.w).room A.in1 := by show A.units + 1 + 8 < cLine; omega
  have l1 : xs.length = ys.length := Paired.length py
  have l2 : kvs.length = xs.length := by have := congrArg List.length r.1; rw [List.length_map, List.length_map] at this; exact this
  refine wpAny_setItem_heap (hsz := by rw [← l1]; exact z) hr hk dd fun h' dd' sb => q _ ?_
  obtain ⟨o, es, ep, ho, hx, hd, he, _, hn⟩ := dd'
  refine d_write I (by rw [h]; exact True.intro) sb ⟨o, ho⟩ ?_
  refine ⟨⟨?_, hs, _, putX_pair rv py, o, es, ep, ho, hx, hd, by rw [hP, hw] at he; exact he, hn⟩, ⟨o, ho⟩, fun h1 h2 hh st => ?_⟩
  · have := putX_len xs k b v; omega
  · obtain ⟨z1, z2, ys', py', o', es', ep', ho', r'⟩ := hh
    exact ⟨z1, z2, ys', py', o', es', ep', st _ ho', r'⟩
end
end DL

set_option Elab.async false
set_option linter.all false
set_option maxRecDepth 100000
set_option maxHeartbeats 1000000
/-! DL4: comparisons, items, slices, built-ins by values. -/
namespace DL
open PySem PySem.Spec PyProof.Rows L2

theorem eqV_int (i j : Int) : eqV (.int i) (.int j) = (i == j) := by simp [eqV]
theorem inV_ints (i : Int) : ∀ ns : List Int, inV (.int i) (ns.map V.int) = decide (i ∈ ns)
  | [] => by simp [inV]
  | n :: ns => by
    have ih := inV_ints i ns
    unfold inV at ih ⊢
    rw [List.map_cons, List.any_cons, ih, eqV_int]
    by_cases h : n = i
    · subst h; simp
    · have h' : ¬ i = n := fun e => h e.symm
      simp [h, h']
theorem flat_ints (ns : List Int) : (ns.map V.int).all flatV = true := by
  rw [List.all_eq_true]
  intro x hx
  obtain ⟨n, _, rfl⟩ := List.mem_map.mp hx
  rfl
section
variable {W : Wd} {S : Store} {m : Mp} {H : Hp} {R : D → Prop} {Q : VK} {d : D} {ds es : List D} {v x y : V} {vs : List V} {a p : Addr}
theorem LkAt.rd {lk : Bool} {u : HO} (h : LkAt lk H a u) : Rd H a u := by
  cases lk with
  | false => exact .inl h
  | true => exact .inr h
theorem keys_at (r : RelS W S m H) {n : Nat} {lk : Bool} {kvs : List (Key × D)} (q : RepV W.K m H (.ref n) x) (h : S[n]? = some (.dct lk kvs)) : ∃ a kws, x = .ref a ∧ m.ad[n]? = some a ∧ LkAt lk H a (.dK kws) ∧ RepKs W.K m H kvs kws := by
  obtain ⟨a, h1, rfl⟩ := q
  obtain ⟨kws, h2, h3⟩ := r.ob n _ a h h1
  exact ⟨a, kws, rfl, h1, h2, h3⟩
theorem nkeys_at (r : RelS W S m H) {n : Nat} {lk : Bool} {kvs : List (NestedKey × D)} (q : RepV W.K m H (.ref n) x) (h : S[n]? = some (.dctN lk kvs)) : ∃ a xs, x = .ref a ∧ m.ad[n]? = some a ∧ LkAt lk H a (NDic W.P W.w a xs) ∧ RepNs W.K m H kvs xs := by
  obtain ⟨a, h1, rfl⟩ := q
  obtain ⟨kws, h2, h3⟩ := r.ob n _ a h h1
  exact ⟨a, kws, rfl, h1, h2, h3⟩
theorem dget_of {k : Key} {kws : List (Key × V)} (h : Rd H a (.dK kws)) : DGet H a (kV k) (valV kws k) := .inl ⟨kws, k, h, rfl, rfl⟩
theorem lst_at (r : RelS W S m H) {n : Nat} {ds : List D} (q : RepV W.K m H (.ref n) x) (h : S[n]? = some (.lst ds)) : ∃ a vs, x = .ref a ∧ H a = some (.lst vs) ∧ RepVs W.K m H ds vs := by
  obtain ⟨a, h1, rfl⟩ := q
  obtain ⟨kws, h2, h3⟩ := r.ob n _ a h h1
  exact ⟨a, kws, rfl, h2, h3⟩
theorem RepVs.atI {K : PySem.W.Frag} {m : Mp} {H : Hp} {ds : List D} {vs : List V} {k : Int} {d : D} (r : RepVs K m H ds vs) (h : L2.atI ds k = some d) : ∃ v, L2.atI vs k = some v ∧ RepV K m H d v := by
  unfold L2.atI at h ⊢
  rw [r.length]
  cases q : ixN ds.length k with
  | none => rw [q] at h; cases h
  | some j =>
    rw [q] at h
    exact r.get h
theorem look_rep {κ : Type} [DecidableEq κ] {k : κ} : ∀ {kvs : List (κ × D)} {kws : List (κ × V)}, kvs.map (·.1) = kws.map (·.1) → RepVs W.K m H (kvs.map (·.2)) (kws.map (·.2)) →
    (∀ d, lookD kvs k = some d → ∃ v, valV kws k = some v ∧ RepV W.K m H d v) ∧ (lookD kvs k = none → valV kws k = none)
  | [], [], _, _ => ⟨(fun _ h => by cases h), fun _ => rfl⟩
  | [], _ :: _, e, _ => nomatch e
  | _ :: _, [], e, _ => nomatch e
  | (k1, d1) :: kvs, (k2, v2) :: kws, e, r => by
    rw [List.map_cons, List.map_cons] at e
    obtain ⟨e1, e2⟩ := List.cons.inj e
    rw [List.map_cons, List.map_cons] at r
    unfold RepVs at r
    obtain ⟨v, t, e3, r1, r2⟩ := r
    obtain ⟨rfl, rfl⟩ := List.cons.inj e3
    obtain rfl : k1 = k2 := e1
    by_cases h : k1 = k
    · refine ⟨fun d hd => ?_, fun hd => ?_⟩
      · simp [lookD, List.find?_cons, h] at hd
        subst hd
        exact ⟨v2, by rw [valV_pos (p := (k1, v2)) h], r1⟩
      · simp [lookD, List.find?_cons, h] at hd
    · obtain ⟨i1, i2⟩ := look_rep (k := k) e2 r2
      have e4 : lookD ((k1, d1) :: kvs) k = lookD kvs k := by simp [lookD, List.find?_cons, h]
      rw [e4, valV_neg (p := (k1, v2)) h]
      exact ⟨i1, i2⟩
theorem key_rep {k : Key} (h : keyOf d = some k) (q : RepV W.K m H d x) : x = kV k := by
  cases d with
  | int i => cases h; exact q
  | str i => cases h; exact q
  | _ => cases h
end
theorem dp_frz {W : Wd} {S : Store} {m : Mp} {H : Hp} {d : D} {a : PyData} {x : V} (r : RelS W S m H) (h : toPy (frz1 S d) = some a) (q : RepV W.K m H d x) : Dp W.K H x a := by
  cases d with
  | ref n =>
    dsimp only [frz1] at h
    split at h
    · rename_i ds hs
      obtain ⟨p, vs, rfl, g1, g2⟩ := lst_at r q hs
      simp only [toPy] at h
      cases hq : toPys ds with
      | none => rw [hq] at h; cases h
      | some xs => rw [hq] at h; cases h; exact .lst (SqL.of g1) (dps_of ds xs vs hq g2)
    · simp only [toPy] at h; cases h
  | _ => exact dp_of _ a x h q
section
variable {W : Wd} {X : Cx} (hK : X.K = W.K) (hP' : X.prog = W.P) (hw : X.w = W.w)
include hK hP' hw
theorem op_inP {k : Nat} (hr : Room k X.A) (neg : Bool) : OpR X (compareOp (if neg = true then .NotIn else .In)) (rV2 W fun S x y R => inP S x y fun b => R (.bl (if neg = true then !b else b))) := by
  intro pins s σ H x y v u Q I rx ry h
  obtain ⟨S, m, d, e, R, rs, qx, qy, hP, fin⟩ := h
  have data : ∀ {a : PyData} {bs : List PyData}, Dp W.K H x a → Dp W.K H y (.list bs) → SeqAt.shaped a = true → SeqAt.shaped (.list bs) = true → R (.bl (if neg = true then !(bs.any fun z => PyData.eqv z a) else bs.any fun z => PyData.eqv z a)) →
      wpAny (model X.prog X.w) X.A (compareOp (if neg = true then .NotIn else .In) v u) (EP X pins σ Q) X.xe s := fun {a bs} h1 h2 s1 s2 q => by
    have hu : X.A.units + 65 < cLine := by have := hr.un; omega
    cases neg with
    | true => exact op_notInD hu pins s σ H x y v u Q I rx ry ⟨a, bs, by rw [hK]; exact h1, by rw [hK]; exact h2, s1, s2, fin.now rs q rfl⟩
    | false => exact op_inD hu pins s σ H x y v u Q I rx ry ⟨a, bs, by rw [hK]; exact h1, by rw [hK]; exact h2, s1, s2, fin.now rs q rfl⟩
  cases e with
  | ref n =>
    dsimp only [inP] at hP
    split at hP
    · rename_i kvs hs
      obtain ⟨key, hk, hR⟩ := hP
      obtain ⟨a, kws, rfl, _, h1, h2, h3⟩ := keys_at rs qy hs
      obtain rfl := key_rep hk qx
      have l := look_rep (k := key) h2 h3
      have el : (valV kws key).isSome = (lookD kvs key).isSome := by
        cases q : lookD kvs key with
        | none => rw [l.2 q]; rfl
        | some d => obtain ⟨v, q2, _⟩ := l.1 d q; rw [q2]; rfl
      have hu : X.A.units + 1 < cLine := by have := hr.un; omega
      have hd : DGet H a (kV key) (valV kws key) := dget_of h1.rd
      obtain rfl : u = Value.ref a := ry
      cases neg with
      | true => exact d_notIn hu I hd rx fun s' I' => ⟨.bl _, H, I', rfl, by rw [el]; exact fin.now rs hR rfl⟩
      | false => exact d_in hu I hd rx fun s' I' => ⟨.bl _, H, I', rfl, by rw [el]; exact fin.now rs hR rfl⟩
    · rename_i kvs hs
      obtain ⟨key, hk, hR⟩ := hP
      obtain ⟨a, xs, rfl, _, h1, h2⟩ := nkeys_at rs qy hs
      obtain ⟨b, rfl, hb⟩ := key_is hK hP' hw I hk qx
      have hu : X.A.units + 9 < cLine := by have := hr.un; omega
      obtain rfl : u = Value.ref a := ry
      obtain rfl : v = Value.ref b := rx
      exact n_in hK hP' hw neg hu I h1.rd h2 hb fun s' I' => ⟨.bl _, H, I', rfl, fin.now rs hR rfl⟩
    · rename_i ds hs
      obtain ⟨a, bs, h1, h2, h3, h4, h5⟩ := hP
      obtain ⟨p, vs, rfl, g1, g2⟩ := lst_at rs qy hs
      exact data (dp_of d a x h1 qx) (.lst (SqL.of g1) (dps_of ds bs vs h2 g2)) h3 h4 h5
    · cases hP
  | fl ds =>
    obtain ⟨a, bs, h1, h2, h3, h4, h5⟩ := hP
    obtain ⟨p, vs, rfl, _, g1, g2⟩ := qy
    exact data (dp_of d a x h1 qx) (.lst (SqL.of g1) (dps_of ds bs vs h2 g2)) h3 h4 h5
  | tup ds =>
    rcases hP with ⟨i, ns, rfl, h2, hR⟩ | ⟨a, bs, h1, h2, h3, h4, h5⟩
    case inr =>
      obtain ⟨p, vs, rfl, g1, g2⟩ := qy
      obtain ⟨as, r1⟩ := Dp.reads I a x v (by rw [hK]; exact dp_of d a x h1 qx) rx
      obtain ⟨cs, r2⟩ := Dp.reads I (.tuple bs) (.ref p) u (by rw [hK]; exact .tup g1.sq (dps_of ds bs vs h2 g2)) ry
      have hu : X.A.units + 65 < cLine := by have := hr.un; omega
      cases neg with
      | true => exact SeqAt.notIn_tuple_reads r2 r1 (SeqAt.canLay_of_shaped h4) (SeqAt.canLay_of_shaped h3) (room_in_shaped h3 hu) ⟨.bl _, H, I, rfl, fin.now rs h5 rfl⟩
      | false => exact SeqAt.in_tuple_reads r2 r1 (SeqAt.canLay_of_shaped h4) (SeqAt.canLay_of_shaped h3) (room_in_shaped h3 hu) ⟨.bl _, H, I, rfl, fin.now rs h5 rfl⟩
    obtain ⟨p, vs, rfl, g1, g2⟩ := qy
    obtain rfl : x = .int i := qx
    obtain rfl := intsOf_eq h2
    obtain rfl := g2.ints_inv
    rw [← inV_ints] at hR
    cases neg with
    | true => exact op_notIn_seq pins s σ H _ _ v u Q I rx ry ⟨p, _, rfl, .inr (by rw [hK]; exact g1.sq), rfl, flat_ints ns, fin.now rs hR rfl⟩
    | false => exact op_in_seq pins s σ H _ _ v u Q I rx ry ⟨p, _, rfl, .inr (by rw [hK]; exact g1.sq), rfl, flat_ints ns, fin.now rs hR rfl⟩
  | _ => cases hP
theorem op_cmp {k : Nat} (hr : Room k X.A) (o : CmpOp) : OpR X (compareOp o) (rV2 W fun S x y R => cmpP S o x y fun k => R (.bl k)) := by
  cases o with
  | In => exact op_inP hK hP' hw hr false
  | NotIn => exact op_inP hK hP' hw hr true
  | Lt =>
    intro pins s σ H x y v u Q I rx ry h
    obtain ⟨S, m, d, e, R, rs, qx, qy, hP, fin⟩ := h
    dsimp only [cmpP] at hP
    split at hP
    · obtain rfl : x = .int _ := qx
      obtain rfl : y = .int _ := qy
      exact op_lt pins s σ H _ _ v u Q I rx ry ⟨_, _, rfl, rfl, fin.now rs hP rfl⟩
    · cases hP
  | LtE =>
    intro pins s σ H x y v u Q I rx ry h
    obtain ⟨S, m, d, e, R, rs, qx, qy, hP, fin⟩ := h
    dsimp only [cmpP] at hP
    split at hP
    · obtain rfl : x = .int _ := qx
      obtain rfl : y = .int _ := qy
      exact op_le pins s σ H _ _ v u Q I rx ry ⟨_, _, rfl, rfl, fin.now rs hP rfl⟩
    · cases hP
  | Gt =>
    intro pins s σ H x y v u Q I rx ry h
    obtain ⟨S, m, d, e, R, rs, qx, qy, hP, fin⟩ := h
    dsimp only [cmpP] at hP
    split at hP
    · obtain rfl : x = .int _ := qx
      obtain rfl : y = .int _ := qy
      exact op_gt pins s σ H _ _ v u Q I rx ry ⟨_, _, rfl, rfl, fin.now rs hP rfl⟩
    · cases hP
  | GtE =>
    intro pins s σ H x y v u Q I rx ry h
    obtain ⟨S, m, d, e, R, rs, qx, qy, hP, fin⟩ := h
    dsimp only [cmpP] at hP
    split at hP
    · obtain rfl : x = .int _ := qx
      obtain rfl : y = .int _ := qy
      exact op_ge pins s σ H _ _ v u Q I rx ry ⟨_, _, rfl, rfl, fin.now rs hP rfl⟩
    · cases hP
  | Eq =>
    intro pins s σ H x y v u Q I rx ry h
    obtain ⟨S, m, d, e, R, rs, qx, qy, hP, fin⟩ := h
    dsimp only [cmpP, eqP] at hP
    split at hP
    · rename_i a b h1 h2
      exact op_eqD hr.units pins s σ H _ _ v u Q I rx ry ⟨a, b, by rw [hK]; exact dp_frz rs h1 qx, by rw [hK]; exact dp_frz rs h2 qy, hP.1, hP.2.1, fin.now rs hP.2.2 rfl⟩
    · cases hP
  | NotEq =>
    intro pins s σ H x y v u Q I rx ry h
    obtain ⟨S, m, d, e, R, rs, qx, qy, hP, fin⟩ := h
    dsimp only [cmpP, eqP] at hP
    split at hP
    · rename_i a b h1 h2
      exact op_neD hr.units pins s σ H _ _ v u Q I rx ry ⟨a, b, by rw [hK]; exact dp_frz rs h1 qx, by rw [hK]; exact dp_frz rs h2 qy, hP.1, hP.2.1, fin.now rs hP.2.2 rfl⟩
    · cases hP
  | Is =>
    intro pins s σ H x y v u Q I rx ry h
    obtain ⟨S, m, d, e, R, rs, qx, qy, hP, fin⟩ := h
    dsimp only [cmpP] at hP
    split at hP
    · obtain rfl : y = .non := qy
      refine op_isN pins s σ H _ _ v u Q I rx ry ⟨rfl, ?_⟩
      cases d with
      | non => obtain rfl : x = .non := qx; exact fin.now rs hP rfl
      | bl b => obtain rfl : x = .bl b := qx; exact fin.now rs hP rfl
      | int b => obtain rfl : x = .int b := qx; exact fin.now rs hP rfl
      | str b => obtain rfl : x = .str b := qx; exact fin.now rs hP rfl
      | tup b => obtain ⟨a, vs, rfl, _⟩ := qx; exact fin.now rs hP rfl
      | fl b => obtain ⟨a, vs, rfl, _⟩ := qx; exact fin.now rs hP rfl
      | scr b => obtain ⟨a, rfl, _⟩ := qx; exact fin.now rs hP rfl
      | ref b => obtain ⟨a, _, rfl⟩ := qx; exact fin.now rs hP rfl
    · rename_i b0
      obtain rfl : y = .bl b0 := qy
      have no : ∀ {k : Bool}, k = false → R (.bl k) → plainIs v u = true → v ≠ u → wpAny (model X.prog X.w) X.A (compareOp .Is v u) (EP X pins σ Q) X.xe s := fun {k} hk hR hp hne => by
        subst hk
        exact wpAny_is_other hp hne ⟨.bl false, H, I, rfl, fin.now rs hR rfl⟩
      obtain rfl : u = Value.bool b0 := ry
      cases d with
      | bl a =>
        obtain rfl : x = .bl a := qx
        exact op_isBl pins s σ H _ (.bl b0) v _ Q I rx rfl ⟨_, _, rfl, rfl, fin.now rs hP rfl⟩
      | non => obtain rfl : x = .non := qx; obtain rfl : v = Value.none := rx; exact no rfl hP rfl (fun z => by cases z)
      | int b => obtain rfl : x = .int b := qx; obtain ⟨t, rfl⟩ := rx; exact no rfl hP rfl (fun z => by cases z)
      | str b => obtain rfl : x = .str b := qx; obtain ⟨t, rfl⟩ := rx; exact no rfl hP rfl (fun z => by cases z)
      | tup b => obtain ⟨a, vs, rfl, _⟩ := qx; obtain rfl : v = Value.ref a := rx; exact no rfl hP rfl (fun z => by cases z)
      | fl b => obtain ⟨a, vs, rfl, _⟩ := qx; obtain rfl : v = Value.ref a := rx; exact no rfl hP rfl (fun z => by cases z)
      | scr b => obtain ⟨a, rfl, _⟩ := qx; obtain rfl : v = Value.ref a := rx; exact no rfl hP rfl (fun z => by cases z)
      | ref b => obtain ⟨a, _, rfl⟩ := qx; obtain rfl : v = Value.ref a := rx; exact no rfl hP rfl (fun z => by cases z)
    · cases hP
  | IsNot =>
    intro pins s σ H x y v u Q I rx ry h
    obtain ⟨S, m, d, e, R, rs, qx, qy, hP, fin⟩ := h
    dsimp only [cmpP] at hP
    split at hP
    · obtain rfl : y = .non := qy
      refine op_notN pins s σ H _ _ v u Q I rx ry ⟨rfl, ?_⟩
      cases d with
      | non => obtain rfl : x = .non := qx; exact fin.now rs hP rfl
      | bl b => obtain rfl : x = .bl b := qx; exact fin.now rs hP rfl
      | int b => obtain rfl : x = .int b := qx; exact fin.now rs hP rfl
      | str b => obtain rfl : x = .str b := qx; exact fin.now rs hP rfl
      | tup b => obtain ⟨a, vs, rfl, _⟩ := qx; exact fin.now rs hP rfl
      | fl b => obtain ⟨a, vs, rfl, _⟩ := qx; exact fin.now rs hP rfl
      | scr b => obtain ⟨a, rfl, _⟩ := qx; exact fin.now rs hP rfl
      | ref b => obtain ⟨a, _, rfl⟩ := qx; exact fin.now rs hP rfl
    · rename_i b0
      obtain rfl : y = .bl b0 := qy
      have no : ∀ {k : Bool}, k = true → R (.bl k) → plainIs v u = true → v ≠ u → wpAny (model X.prog X.w) X.A (compareOp .IsNot v u) (EP X pins σ Q) X.xe s := fun {k} hk hR hp hne => by
        subst hk
        exact wpAny_isNot_other hp hne ⟨.bl true, H, I, rfl, fin.now rs hR rfl⟩
      obtain rfl : u = Value.bool b0 := ry
      cases d with
      | bl a =>
        obtain rfl : x = .bl a := qx
        exact op_notBl pins s σ H _ (.bl b0) v _ Q I rx rfl ⟨_, _, rfl, rfl, fin.now rs hP rfl⟩
      | non => obtain rfl : x = .non := qx; obtain rfl : v = Value.none := rx; exact no rfl hP rfl (fun z => by cases z)
      | int b => obtain rfl : x = .int b := qx; obtain ⟨t, rfl⟩ := rx; exact no rfl hP rfl (fun z => by cases z)
      | str b => obtain rfl : x = .str b := qx; obtain ⟨t, rfl⟩ := rx; exact no rfl hP rfl (fun z => by cases z)
      | tup b => obtain ⟨a, vs, rfl, _⟩ := qx; obtain rfl : v = Value.ref a := rx; exact no rfl hP rfl (fun z => by cases z)
      | fl b => obtain ⟨a, vs, rfl, _⟩ := qx; obtain rfl : v = Value.ref a := rx; exact no rfl hP rfl (fun z => by cases z)
      | scr b => obtain ⟨a, rfl, _⟩ := qx; obtain rfl : v = Value.ref a := rx; exact no rfl hP rfl (fun z => by cases z)
      | ref b => obtain ⟨a, _, rfl⟩ := qx; obtain rfl : v = Value.ref a := rx; exact no rfl hP rfl (fun z => by cases z)
    · cases hP

theorem ix_P {k : Nat} (hr : Room k X.A) : IxR X (rV2 W fun S x y R => ixP S x y R) := by
  intro value slice pins s σ H x y v u Q I rx ry h hs
  obtain ⟨S, m, d, e, R, rs, qx, qy, hP, fin⟩ := h
  have seq : ∀ {ds : List D} {k : Int} {d' : D}, seqOf S d = some ds → e = .int k → L2.atI ds k = some d' → R d' → wpAny (model X.prog X.w) X.A (subscriptTail value slice v u) (EP X pins σ Q) X.xe s := fun {ds k d'} h1 h2 h3 h4 => by
    subst h2
    obtain ⟨vs, ⟨a, rfl, hq⟩, hv⟩ := seq_rep rs qx h1
    obtain rfl : y = .int k := qy
    obtain ⟨w', hw', rw'⟩ := RepVs.atI hv h3
    refine ix_seq value slice pins s σ H _ _ v u Q I rx ry ?_ hs
    rcases hq with hq | hq
    · exact .inl ⟨a, vs, k, w', rfl, rfl, by rw [hK]; exact hq.1, hw', fin.now rs h4 rw'⟩
    · exact .inr (.inl ⟨a, vs, k, w', rfl, rfl, by rw [hK]; exact hq.1.sq, hw', fin.now rs h4 rw'⟩)
  cases d with
  | ref n =>
    dsimp only [ixP] at hP
    split at hP
    · rename_i ds hs'
      obtain ⟨k, d', h1, h2, h3⟩ := hP
      exact seq (by dsimp only [seqOf]; rw [hs']) h1 h2 h3
    · rename_i kvs hs'
      obtain ⟨key, d', h1, h2, h3⟩ := hP
      obtain ⟨a, kws, rfl, _, g1, g2, g3⟩ := keys_at rs qx hs'
      obtain rfl := key_rep h1 qy
      obtain ⟨w', hw', rw'⟩ := (look_rep (k := key) g2 g3).1 d' h2
      have hu : X.A.units + 1 < cLine := by have := hr.un; omega
      obtain rfl : v = Value.ref a := rx
      have g : DGet H a (kV key) (some w') := by rw [← hw']; exact dget_of g1.rd
      exact tail_any (dict_typeIs I g) PySem.F.slot_dict_getitem.lookup (d_getItem hu I g ry fun w'' s' I' r' => ⟨w', H, I', r', fin.now rs h3 rw'⟩) hs
    · rename_i kvs hs'
      obtain ⟨key, d', h1, h2, h3⟩ := hP
      obtain ⟨a, xs, rfl, _, g1, g2⟩ := nkeys_at rs qx hs'
      obtain ⟨b, rfl, hb⟩ := key_is hK hP' hw I h1 qy
      have hu : X.A.units + 9 < cLine := by have := hr.un; omega
      obtain rfl : v = Value.ref a := rx
      obtain rfl : u = Value.ref b := ry
      obtain ⟨z, hsm, ys, py, dd⟩ := ndic_at hK hP' hw I g1.rd g2
      exact tail_any dd.typeIs PySem.F.slot_dict_getitem.lookup (n_get hK hP' hw hu I g1.rd g2 hb h2 fun v' u' s' I' r' q' => ⟨v', H, I', r', fin.now rs h3 q'⟩) hs
    · cases hP
  | tup ds => obtain ⟨ds, k, d', h1, h2, h3, h4⟩ := hP; exact seq h1 h2 h3 h4
  | fl ds => obtain ⟨ds, k, d', h1, h2, h3, h4⟩ := hP; exact seq h1 h2 h3 h4
  | scr ds => obtain ⟨ds, k, d', h1, h2, h3, h4⟩ := hP; exact seq h1 h2 h3 h4
  | non => obtain ⟨ds, k, d', h1, h2, h3, h4⟩ := hP; cases h1
  | bl b => obtain ⟨ds, k, d', h1, h2, h3, h4⟩ := hP; cases h1
  | int b => obtain ⟨ds, k, d', h1, h2, h3, h4⟩ := hP; cases h1
  | str b => obtain ⟨ds, k, d', h1, h2, h3, h4⟩ := hP; cases h1
theorem sl_P : SlR X fun x lo hi H Q => ∃ S m d R, RelS W S m H ∧ RepV W.K m H d x ∧ slP S d lo hi R ∧ Fin W S m H R Q := by
  intro pins s σ H x v vl vu lo hi sl Q I rx hs pl pu h
  obtain ⟨S, m, d, R, rs, qx, hP, fin⟩ := h
  have lst : ∀ {ds : List D}, (∀ xs, d ≠ .tup xs) → seqOf S d = some ds → R (.fl (cutD ds lo hi)) → ∃ T id, typeLookup (Value.type T) (Str.ofString "__getitem__") = pure (some (Value.builtin id)) ∧ s.TypeIs v T ∧ wpAny (model X.prog X.w) X.A (getItem v (Value.ref sl)) (EP X pins σ Q) X.xe s := fun {ds} nt h1 h2 => by
    obtain ⟨vs, hq, hv⟩ := seq_rep rs qx h1
    obtain ⟨a, rfl, hq2⟩ := hq.lst nt
    refine sl_list pins s σ H _ v vl vu lo hi sl Q I rx hs pl pu ⟨a, vs, rfl, by rw [hK]; exact hq2, fun p hp => fin.lst rs h2 ?_ hp⟩
    unfold cutD cutV
    rw [hv.length]
    exact (hv.drop _).take _
  cases d with
  | tup ds =>
    obtain ⟨a, vs, rfl, h1, h2⟩ := qx
    refine sl_tupA pins s σ H _ v vl vu lo hi sl Q I rx hs pl pu ⟨a, vs, rfl, by rw [hK]; exact h1.sq, fun hw => ?_, fun hw p hp => ?_⟩
    · refine fin.now rs hP ⟨a, vs, rfl, h1, ?_⟩
      have e : cutD ds lo hi = ds := by
        unfold cutD
        rw [h2.length] at hw
        rw [hw.1, hw.2]
        simp
      rw [e]; exact h2
    · refine fin.tup rs hP ?_ hp
      unfold cutD cutV
      rw [h2.length]
      exact (h2.drop _).take _
  | fl ds => obtain ⟨ds, h1, h2⟩ := hP; exact lst (fun _ z => nomatch z) h1 h2
  | scr ds => obtain ⟨ds, h1, h2⟩ := hP; exact lst (fun _ z => nomatch z) h1 h2
  | ref ds => obtain ⟨ds, h1, h2⟩ := hP; exact lst (fun _ z => nomatch z) h1 h2
  | non => obtain ⟨ds, h1, h2⟩ := hP; cases h1
  | bl b => obtain ⟨ds, h1, h2⟩ := hP; cases h1
  | int b => obtain ⟨ds, h1, h2⟩ := hP; cases h1
  | str b => obtain ⟨ds, h1, h2⟩ := hP; cases h1
end
end DL

set_option Elab.async false
set_option linter.all false
set_option maxRecDepth 100000
set_option maxHeartbeats 1000000
/-! DL5: built-ins by values. -/
namespace DL
open PySem PySem.Spec PyProof.Rows L2

/-! ### collect, sorted over a list or a tuple -/
section
variable {prog : Program} {w : World} {A : Around} {E : Value → Shared → Prop} {s : Shared}
theorem collect_seq {l : Addr} {T : String} {o : Obj} {vs : List Value} {n : Nat} {Q : List Value → Shared → Prop} (hT : T = "list" ∨ T = "tuple") (ho : s.heap.get? l = some o) (hc : o.cls = .type T) (hd : o.data = .seq vs.toArray n)
    (h : Q vs { s with heap := (s.heap.push (seqObj "list" #[] 0)).update s.heap.objs.size (Obj.mapSeq (· ++ vs.toArray)) }) (hsz : vs.length ≤ sizeLine) :
    wpAny (model prog w) A (collect (.ref l)) Q E s := by
  unfold collect
  refine wpAny_bind (wpAny_runValue (codeAny_builtin entry_proto_collect' ?_))
  show wpAny _ _ (do again (.builtin "list.__iadd__" ⟨[← newList [], .ref l], []⟩)) _ _ s
  refine wpAny_bind (wpAny_newList (wpAny_pure ⟨Code.quiet_builtin _ (by decide +kernel), codeAny_builtin entry_list_iadd' ?_⟩))
  show wpAny _ _ (Builtin.List.listExtendWith (.ref s.heap.objs.size) (.ref l) (.ref s.heap.objs.size)) _ _ { s with heap := s.heap.push (seqObj "list" #[] 0) }
  unfold Builtin.List.listExtendWith
  have ho' : (s.heap.push (seqObj "list" #[] 0)).get? l = some o := Heap.get?_push_of_some _ ho
  refine wpAny_bind (wpAny_typeOf (T := T) ⟨o, ho', hc⟩ ?_)
  have t1 : (Value.type "list" == Value.type "list") = true := by rfl
  have t2 : (Value.type "tuple" == Value.type "tuple") = true := by rfl
  rw [if_pos (by rcases hT with rfl | rfl <;> simp [t1, t2])]
  refine wpAny_bind (listItems_at ho' hd ?_)
  refine wpAny_bind (listItems_at (xs := #[]) (n := 0) (Heap.get?_push_size _ rfl) rfl ?_)
  rw [if_neg (by simp)]
  refine wpAny_bind (listUpdate_at (xs := #[]) (n := 0) (Heap.get?_push_size _ rfl) rfl ?_ (Nat.zero_le _) (by show (#[] ++ vs.toArray).size ≤ sizeLine + 1; simp only [Array.size_append, List.size_toArray, List.length_nil]; omega))
  refine wpAny_pure ?_
  show wpAny (model prog w) A (do
      let o ← load s.heap.objs.size
      match o.data with
      | .seq xs _ => pure xs.toList
      | _ => unsupported "internal:collect") Q E { s with heap := (s.heap.push (seqObj "list" #[] 0)).update s.heap.objs.size (Obj.mapSeq (· ++ vs.toArray)) }
  refine wpAny_bind (wpAny_load (get?_update_seq (Heap.get?_push_size _ rfl) _) ?_)
  show wpAny _ _ (pure ((#[] : Array Value) ++ vs.toArray).toList) Q E _
  rw [show ((#[] : Array Value) ++ vs.toArray).toList = vs by simp]
  exact wpAny_pure h
open Srt SrtO in
theorem sorted_seq {l : Addr} {T : String} {o : Obj} {vs : List Value} {n : Nat} {ltv : Value → Value → Bool} {Q : Value → Shared → Prop} (hT : T = "list" ∨ T = "tuple") (ho : s.heap.get? l = some o) (hc : o.cls = .type T) (hd : o.data = .seq vs.toArray n)
    (O : Swo ltv) (hz : vs.length ≤ sizeLine)
    (hS : 2 ≤ vs.length → ∀ (h₁ : Heap) (a : Addr), h₁.get? a = some (seqObj "list" vs.toArray 0) → (∀ b o, s.heap.get? b = some o → b ≠ a ∧ h₁.get? b = some o) → SortableO prog w A.in1.in1 { s with heap := h₁ } a vs ltv)
    (h : ∀ out : List Value, Srtd ltv out → Stb ltv out vs → Q (.ref (s.heap.objs.size + 1)) { s with heap := sortedAll s.heap vs out.toArray }) :
    wpAny (model prog w) A (call (.builtin "sorted") [.ref l]) Q E s := by
  refine Calls.call_function_entry kind_sorted plain_sorted entry_sorted (args_sorted1 _) ?_
  unfold Builtin.«sorted»
  refine wpAny_bind (m := checkCount "sorted" 1 1 _) (wpAny_pure ?_)
  refine wpAny_bind (collect_seq hT ho hc hd ?_ hz)
  refine wpAny_bind (wpAny_newList ?_ hz)
  have hsz : ((s.heap.push (seqObj "list" #[] 0)).update s.heap.objs.size (Obj.mapSeq (· ++ vs.toArray))).objs.size = s.heap.objs.size + 1 := by
    rw [Heap.size_update, size_push']
  have hoL : (((s.heap.push (seqObj "list" #[] 0)).update s.heap.objs.size (Obj.mapSeq (· ++ vs.toArray))).push (seqObj "list" vs.toArray 0)).get? (s.heap.objs.size + 1) = some (seqObj "list" vs.toArray 0) := by
    rw [← hsz]; exact Heap.get?_push_size _ rfl
  have keep : ∀ b o, s.heap.get? b = some o → b ≠ s.heap.objs.size + 1 ∧ (((s.heap.push (seqObj "list" #[] 0)).update s.heap.objs.size (Obj.mapSeq (· ++ vs.toArray))).push (seqObj "list" vs.toArray 0)).get? b = some o := fun b o q => by
    have hlt : b < s.heap.objs.size := Heap.lt_size q
    refine ⟨Nat.ne_of_lt (Nat.lt_succ_of_lt hlt), Heap.get?_push_of_some _ ?_⟩
    rw [Heap.get?_update_ne _ _ _ _ (Nat.ne_of_lt hlt)]
    exact Heap.get?_push_of_some _ q
  show wpAny _ _ _ _ _ { s with heap := ((s.heap.push (seqObj "list" #[] 0)).update s.heap.objs.size (Obj.mapSeq (· ++ vs.toArray))).push (seqObj "list" vs.toArray 0) }
  rw [hsz]
  refine wpAny_bind (wpAny_holding (wpAny_call_entry slot_list_sort ⟨_, hoL, rfl⟩ entry_list_sort (list_sort_ord O hoL hz (fun h2 => hS h2 _ _ hoL keep) fun out hs hb => ⟨_, rfl, ?_⟩) (args_list_sort _)))
  exact wpAny_pure ⟨_, rfl, h out hs hb⟩
end
theorem mem_insI {a i : Int} : ∀ {ns : List Int}, a ∈ insI i ns ↔ a = i ∨ a ∈ ns
  | [] => by simp [insI]
  | j :: r => by
    unfold insI
    split
    · simp
    · rw [List.mem_cons, mem_insI, List.mem_cons]
      constructor
      · rintro (h | h | h) <;> simp [h]
      · rintro (h | h | h) <;> simp [h]
theorem insI_sorted {i : Int} : ∀ {ns : List Int}, ns.Pairwise (· ≤ ·) → (insI i ns).Pairwise (· ≤ ·)
  | [], _ => by simp [insI]
  | j :: r, h => by
    unfold insI
    rw [List.pairwise_cons] at h
    split
    · rename_i hij
      rw [List.pairwise_cons]
      refine ⟨fun a ha => ?_, List.pairwise_cons.mpr h⟩
      rcases List.mem_cons.mp ha with rfl | ha
      · exact hij
      · exact Int.le_trans hij (h.1 a ha)
    · rename_i hij
      rw [List.pairwise_cons]
      refine ⟨fun a ha => ?_, insI_sorted h.2⟩
      rcases mem_insI.mp ha with rfl | ha
      · omega
      · exact h.1 a ha
theorem insI_perm (i : Int) : ∀ ns : List Int, (insI i ns).Perm (i :: ns)
  | [] => List.Perm.refl _
  | j :: r => by
    unfold insI
    split
    · exact List.Perm.refl _
    · exact ((insI_perm i r).cons j).trans (List.Perm.swap i j r)
theorem sortI_sorted : ∀ ns : List Int, (sortI ns).Pairwise (· ≤ ·)
  | [] => List.Pairwise.nil
  | n :: ns => insI_sorted (sortI_sorted ns)
theorem sortI_perm : ∀ ns : List Int, (sortI ns).Perm ns
  | [] => List.Perm.refl _
  | n :: ns => (insI_perm n (sortI ns)).trans ((sortI_perm ns).cons n)
theorem sorted_eq : ∀ {xs ys : List Int}, xs.Pairwise (· ≤ ·) → ys.Pairwise (· ≤ ·) → xs.Perm ys → xs = ys
  | [], ys, _, _, p => by rw [p.nil_eq]
  | x :: xs, [], _, _, p => by have := p.length_eq; simp at this
  | x :: xs, y :: ys, h1, h2, p => by
    have h1' := List.pairwise_cons.mp h1
    have h2' := List.pairwise_cons.mp h2
    have e : x = y := by
      have m1 : x ∈ y :: ys := p.subset List.mem_cons_self
      have m2 : y ∈ x :: xs := p.symm.subset List.mem_cons_self
      have a1 : x ≤ y := by
        rcases List.mem_cons.mp m2 with e | m
        · omega
        · exact h1'.1 y m
      have a2 : y ≤ x := by
        rcases List.mem_cons.mp m1 with e | m
        · omega
        · exact h2'.1 x m
      omega
    subst e
    rw [sorted_eq h1'.2 h2'.2 (List.Perm.cons_inv p)]
theorem sortI_of {xs ns : List Int} (p : xs.Perm ns) (h : xs.Pairwise (· ≤ ·)) : xs = sortI ns := sorted_eq h (sortI_sorted ns) (p.trans (sortI_perm ns).symm)
theorem maxI_spec : ∀ (ns : List Int), 0 < ns.length → maxI ns ∈ ns ∧ ∀ y ∈ ns, y ≤ maxI ns
  | [], h => by simp at h
  | [i], _ => by simp [maxI]
  | i :: j :: r, _ => by
    have ih := maxI_spec (j :: r) (by simp)
    unfold maxI
    dsimp only
    split
    · rename_i h
      refine ⟨List.mem_cons_self, fun y hy => ?_⟩
      rcases List.mem_cons.mp hy with rfl | hy
      · exact Int.le_refl _
      · exact Int.le_trans (ih.2 y hy) h
    · rename_i h
      refine ⟨List.mem_cons_of_mem _ ih.1, fun y hy => ?_⟩
      rcases List.mem_cons.mp hy with rfl | hy
      · omega
      · exact ih.2 y hy
theorem minI_spec : ∀ (ns : List Int), 0 < ns.length → minI ns ∈ ns ∧ ∀ y ∈ ns, minI ns ≤ y
  | [], h => by simp at h
  | [i], _ => by simp [minI]
  | i :: j :: r, _ => by
    have ih := minI_spec (j :: r) (by simp)
    unfold minI
    dsimp only
    split
    · rename_i h
      refine ⟨List.mem_cons_self, fun y hy => ?_⟩
      rcases List.mem_cons.mp hy with rfl | hy
      · exact Int.le_refl _
      · exact Int.le_trans h (ih.2 y hy)
    · rename_i h
      refine ⟨List.mem_cons_of_mem _ ih.1, fun y hy => ?_⟩
      rcases List.mem_cons.mp hy with rfl | hy
      · omega
      · exact ih.2 y hy
theorem maxI_uniq {ns : List Int} {m : Int} (h : m ∈ ns) (h2 : ∀ y, y ∈ ns → y ≤ m) : m = maxI ns := by
  have h0 : 0 < ns.length := List.length_pos_of_mem h
  have s := maxI_spec ns h0
  have a := s.2 m h
  have b := h2 _ s.1
  omega
theorem minI_uniq {ns : List Int} {m : Int} (h : m ∈ ns) (h2 : ∀ y, y ∈ ns → m ≤ y) : m = minI ns := by
  have h0 : 0 < ns.length := List.length_pos_of_mem h
  have s := minI_spec ns h0
  have a := s.2 m h
  have b := h2 _ s.1
  omega
theorem RepVs.one {W : Wd} {m : Mp} {H : Hp} {d : D} {vs : List V} (h : RepVs W.K m H [d] vs) : ∃ v, vs = [v] ∧ RepV W.K m H d v := by
  unfold RepVs at h
  obtain ⟨v, r, rfl, h1, h2⟩ := h
  unfold RepVs at h2
  subst h2
  exact ⟨v, rfl, h1⟩
theorem RepVs.two {W : Wd} {m : Mp} {H : Hp} {d e : D} {vs : List V} (h : RepVs W.K m H [d, e] vs) : ∃ v w, vs = [v, w] ∧ RepV W.K m H d v ∧ RepV W.K m H e w := by
  unfold RepVs at h
  obtain ⟨v, r, rfl, h1, h2⟩ := h
  obtain ⟨w, rfl, h3⟩ := h2.one
  exact ⟨v, w, rfl, h1, h3⟩
theorem keys_rep {K : PySem.W.Frag} {m : Mp} {H : Hp} : ∀ ks : List Key, RepVs K m H (ks.map unKey) (ks.map kV)
  | [] => RepVs.nil
  | .inl i :: ks => RepVs.cons (show RepV K m H (.int i) (.int i) from rfl) (keys_rep ks)
  | .inr i :: ks => RepVs.cons (show RepV K m H (.str i) (.str i) from rfl) (keys_rep ks)
theorem outs_of {K : PySem.W.Frag} {m : Mp} {H : Hp} : ∀ {vs : List Value} {ds : List D}, PySem.W.EachIs (fun v d => ∃ x, L2.RelV x v ∧ RepV K m H d x) vs ds → ∃ xs, Vals xs vs ∧ RepVs K m H ds xs
  | _, _, .nil => ⟨[], .nil, RepVs.nil⟩
  | _, _, .cons ⟨x, h1, h2⟩ t => by
    obtain ⟨xs, h3, h4⟩ := outs_of t
    exact ⟨x :: xs, .cons h1 h3, RepVs.cons h2 h4⟩

/-! ### what is collected; data sorted -/
section
variable {W : Wd} {X : Cx} {pins : List (Addr × Obj)} {σ : L2.St} {s : Shared} {S : Store} {m : Mp} {H : Hp} {A : Around} {E : Value → Shared → Prop} {d : D} {ds : List D} {x : V} {u : Value} (hK : X.K = W.K) (hP' : X.prog = W.P) (hw : X.w = W.w)
include hK hP' hw
theorem collect_col {Q : List Value → Shared → Prop} (hh : A.handled = none) (I : L2.Inv X pins σ H s) (r : RelS W S m H) (q : RepV W.K m H d x) (rx : L2.RelV x u) (h : colOf S d = some ds) (hl : ds.length ≤ sizeLine)
    (hQ : ∀ h' tk vs xs, (∀ b o, s.heap.get? b = some o → h'.get? b = some o) → Vals xs vs → RepVs W.K m H ds xs → Q vs { s with heap := h', toks := tk }) : wpAny (model X.prog X.w) A (collect u) Q E s := by
  have seq : seqOf S d = some ds → wpAny (model X.prog X.w) A (collect u) Q E s := fun hs => by
    obtain ⟨xs, ⟨a, rfl, hq⟩, hv⟩ := seq_rep r q hs
    obtain rfl : u = Value.ref a := rx
    have key : ∃ (its : List Value) (o : Obj) (T : String) (n : Nat), Vals xs its ∧ (T = "list" ∨ T = "tuple") ∧ s.heap.get? a = some o ∧ o.cls = .type T ∧ o.data = .seq its.toArray n ∧ xs.length ≤ sizeLine := by
      rcases hq with ⟨hq, _⟩ | ⟨hq, _⟩
      · obtain ⟨its, rv, pl, hz⟩ := I.list (show SqL X.K H a _ by rw [hK]; exact hq)
        obtain ⟨o, ho, hc', n, hd⟩ := pl.isList
        exact ⟨its, o, "list", n, rv, .inl rfl, ho, hc', hd, hz⟩
      · obtain ⟨its, rv, pl, hz⟩ := I.tuple (show SqT X.K H a _ by rw [hK]; exact hq.sq)
        obtain ⟨o, ho, hc', n, hd⟩ := pl
        exact ⟨its, o, "tuple", n, rv, .inr rfl, ho, hc', hd, hz⟩
    obtain ⟨its, o, T, n, rv, hT, ho, hc', hd, hz⟩ := key
    refine collect_seq hT ho hc' hd (hQ _ s.toks its xs (fun b ob e => ?_) rv hv) (by rw [← rv.length]; exact hz)
    rw [Heap.get?_update_ne _ _ _ _ (Nat.ne_of_lt (Heap.lt_size e))]
    exact Heap.get?_push_of_some _ e
  cases d with
  | ref n =>
    dsimp only [colOf] at h
    split at h
    · rename_i xs hs
      exact seq (by dsimp only [seqOf]; rw [hs]; exact h)
    · rename_i l kvs hs
      cases h
      obtain ⟨a, kws, rfl, _, g1, g2⟩ := keys_at r q hs
      obtain rfl : u = Value.ref a := rx
      obtain ⟨z, lo, vs, rel, dd⟩ := dk_rd I.hok g1.rd
      obtain ⟨ep, hat⟩ := dd.dictAt
      have l1 : kws.length = vs.length := Paired.length rel
      have hke : (kvs.map fun kv => kv.1) = kws.map fun kv => kv.1 := g2.1
      refine PySem.W.kdu_collect (PySem.W.kdl_dict (knd := mixKind X.prog X.w) (kvs := vs) (ep := ep) lo) hh hat (by rw [← l1]; exact z) fun h' tk acc hk hacc => ?_
      have hv : Vals (vs.map fun p => kV p.1) acc.toList := L2.keys_at (by rw [Array.length_toList]; exact hacc.1) fun j v e => hacc.2 j v (by rw [← Array.getElem?_toList]; exact e)
      refine hQ h' tk acc.toList _ hk hv ?_
      have e1 : vs.map (fun p => kV p.1) = (kvs.map fun kv => kv.1).map kV := by
        rw [hke, KV.keys rel, List.map_map]; rfl
      rw [e1]
      have := keys_rep (K := W.K) (m := m) (H := H) (kvs.map fun kv => kv.1)
      rw [List.map_map] at this
      exact this
    · rename_i l kvs hs
      cases h
      obtain ⟨a, xs, rfl, _, g1, g2⟩ := nkeys_at r q hs
      obtain rfl : u = Value.ref a := rx
      have ok : ObjOk X.prog X.w H s.heap a (NDic W.P W.w a xs) := g1.rd.ok I.hok
      obtain ⟨⟨z, lo, ys, py, o, es, ep, ho, hx, hdt, he, _⟩, _, _⟩ := ok
      have l1 : es.size = ys.length := by have := congrArg List.length he; rw [Array.length_toList, List.length_map] at this; exact this
      have l2 : xs.length = ys.length := Paired.length py
      refine PySem.W.kdu_collect (L2.kdl_raw lo hx hdt) hh ho (by omega) fun h' tk acc hk hacc => ?_
      refine hQ h' tk acc.toList (xs.map fun x => .ref x.2.1) hk ?_ g2.2.1
      refine L2.vals_of_at (by have := hacc.1; rw [List.length_map]; simp only [Array.length_toList]; omega) fun j y w h1 h2 => ?_
      obtain ⟨en, hen, rfl⟩ := hacc.2 j w (by rw [← Array.getElem?_toList]; exact h2)
      rw [List.getElem?_map] at h1
      cases hxj : xs[j]? with
      | none => rw [hxj] at h1; cases h1
      | some e =>
        rw [hxj] at h1
        cases h1
        obtain ⟨y, hy, e1, e2, _⟩ := paired_get py hxj
        have qq : es.toList[j]? = some (entryOfKey (nestedKind W.P W.w) y) := by rw [he, List.getElem?_map, hy]; rfl
        rw [Array.getElem?_toList, hen] at qq
        cases qq
        show Value.ref y.2.1 = Value.ref e.2.1
        rw [e2]
    · cases h
  | _ => exact seq h
/-- sorted(x) of what is data -/
theorem sorted_col {Q : VK} {E : Value → Shared → Prop} (hr : X.A.units + 12 < cLine) (hh : X.A.handled = none) (I : L2.Inv X pins σ H s) (r : RelS W S m H) (q : RepV W.K m H d x) (rx : L2.RelV x u) (h : colOf S d = some ds) (hp : ∀ y ∈ ds, (toPy y).isSome = true) {R : D → Prop} (hs : srtP ds pyD R) (fin : Fin W S m H R Q) :
    wpAny (model X.prog X.w) X.A (call (.builtin "sorted") [u]) (EP X pins σ Q) E s := by
  obtain ⟨hl, hal, hso, hdep, hR⟩ := hs
  refine Calls.call_function_entry kind_sorted plain_sorted entry_sorted (args_sorted1 _) ?_
  unfold Builtin.«sorted»
  refine wpAny_bind (m := checkCount "sorted" 1 1 _) (wpAny_pure (wpAny_bind ?_))
  refine collect_col hK hP' hw (A := X.A.in1) hh I r q rx h hl fun h' tk vs xs hk rv rd => ?_
  have hlv : vs.length = ds.length := by rw [← rv.length, rd.length]
  have I1 : L2.Inv X pins σ H { s with heap := h', toks := tk } := I.kept hk
  refine wpAny_bind (wpAny_newList ?_ (by rw [hlv]; exact hl))
  have hoL : (h'.push (seqObj "list" vs.toArray 0)).get? h'.objs.size = some (seqObj "list" vs.toArray 0) := Heap.get?_push_size _ rfl
  have old : ∀ b o, h'.get? b = some o → (PySem.W.sortingHeap (h'.push (seqObj "list" vs.toArray 0)) h'.objs.size vs).get? b = some o := fun b o e =>
    PySem.W.sortingHeap_old (Nat.ne_of_lt (Heap.lt_size e)) (Heap.get?_push_of_some _ e)
  have hrd : ∀ (hx : Heap), (∀ b o, h'.get? b = some o → hx.get? b = some o) → PySem.W.EachIs (fun v k => ∃ as, Reads hx v k as) vs (ds.map pyD) := fun hx kx => by
    have go : ∀ {vs : List Value} {xs : List V} {ds : List D}, Vals xs vs → RepVs W.K m H ds xs → (∀ y ∈ ds, (toPy y).isSome = true) → PySem.W.EachIs (fun v k => ∃ as, Reads hx v k as) vs (ds.map pyD) := fun {vs} => by
      induction vs with
      | nil =>
        intro xs ds h1 h2 _
        cases h1
        cases ds with
        | nil => exact .nil
        | cons d ds => unfold RepVs at h2; obtain ⟨_, _, z, _⟩ := h2; cases z
      | cons v vs ih =>
        intro xs ds h1 h2 h3
        cases h1 with
        | cons r1 r2 =>
          cases ds with
          | nil => unfold RepVs at h2; cases h2
          | cons d ds =>
            unfold RepVs at h2
            obtain ⟨_, _, z, q1, q2⟩ := h2
            cases z
            obtain ⟨p, hp⟩ := Option.isSome_iff_exists.mp (h3 d List.mem_cons_self)
            have e : pyD d = p := by unfold pyD; rw [hp]; rfl
            obtain ⟨as, ra⟩ := L2.Dp.reads I1 p _ v (by rw [hK]; exact dp_of d p _ hp q1) r1
            rw [List.map_cons, e]
            exact .cons ⟨as, PyProof.Rows.Reads.keeps kx ra⟩ (ih r2 q2 fun y hy => h3 y (List.mem_cons_of_mem _ hy))
    exact go rv rd hp
  refine wpAny_bind (wpAny_holding (wpAny_call_entry slot_list_sort ⟨_, hoL, rfl⟩ entry_list_sort (PySem.W.list_sort_vals (κ := PySem.W.dataKind (PySem.W.sortingHeap (h'.push (seqObj "list" vs.toArray 0)) h'.objs.size vs) (ds.map pyD)) hoL
    (PySem.W.SortsAt.data (s := { s with heap := PySem.W.sortingHeap (h'.push (seqObj "list" vs.toArray 0)) h'.objs.size vs, toks := tk }) (hrd _ old) hal hso fun k hk => ?_) (by rw [hlv]; exact hl) ⟨.none, rfl, ?_⟩) (args_list_sort _)))
  · obtain ⟨y, hy, rfl⟩ := List.mem_map.mp hk
    have := hdep y hy
    show X.A.units + 1 + 1 + _ < cLine
    omega
  · have hR2 : PySem.W.EachIs (fun v d => ∃ x, L2.RelV x v ∧ RepV W.K m H d x) vs ds := by
      have go : ∀ {vs : List Value} {xs : List V} {ds : List D}, Vals xs vs → RepVs W.K m H ds xs → PySem.W.EachIs (fun v d => ∃ x, L2.RelV x v ∧ RepV W.K m H d x) vs ds := fun {vs} => by
        induction vs with
        | nil =>
          intro xs ds h1 h2
          cases h1
          cases ds with
          | nil => exact .nil
          | cons d ds => unfold RepVs at h2; obtain ⟨_, _, z, _⟩ := h2; cases z
        | cons v vs ih =>
          intro xs ds h1 h2
          cases h1 with
          | cons r1 r2 =>
            cases ds with
            | nil => unfold RepVs at h2; cases h2
            | cons d ds =>
              unfold RepVs at h2
              obtain ⟨_, _, z, q1, q2⟩ := h2
              cases z
              exact .cons ⟨_, r1, q1⟩ (ih r2 q2)
      exact go rv rd
    have hO := PySem.W.keyedOut_each (rev := false) pyD ⟨PySem.W.sortingHeap (h'.push (seqObj "list" vs.toArray 0)) h'.objs.size vs, vs, hal, rfl, hrd _ old⟩ hR2
    obtain ⟨ys, hy1, hy2⟩ := outs_of hO
    obtain ⟨c, hc⟩ := sortedHeap_at (vs := vs) (out := (PySem.W.sortVals (PySem.W.dataKind (PySem.W.sortingHeap (h'.push (seqObj "list" vs.toArray 0)) h'.objs.size vs) (ds.map pyD)) false vs vs).toArray) hoL
    have hlen : ys.length ≤ sizeLine := by
      rw [hy1.length, PySem.W.sortVals_length false rfl, hlv]
      exact hl
    refine wpAny_pure ⟨_, rfl, .ref _, upd H h'.objs.size (.lst ys), I1.laid (t' := tk) (fun b o e => ?_) (Nat.le_refl _) ⟨hlen, _, c, hy1, hc⟩, rfl, fin.lst r hR hy2 (I1.hok.fresh (Nat.le_refl _))⟩
    rw [sortedHeap_old (Nat.ne_of_lt (Heap.lt_size e)) (by rw [size_push']; exact Nat.lt_succ_of_lt (Heap.lt_size e))]
    exact Heap.get?_push_of_some _ e
end
section
variable {W : Wd} {X : Cx} (hK : X.K = W.K) (hP' : X.prog = W.P) (hw : X.w = W.w)
include hK hP' hw
theorem call_bi {k : Nat} (hc : X.calm = true) (hr : Room k X.A) (b : Bi) : CallR X b.val (rVs W fun S ds R => biP S b ds R) := by
  intro pins s σ H xs us Q I rs h
  obtain ⟨S, m, ds, R, r, qs, hP, fin⟩ := h
  have intz : ∀ {d : D} {x : V} {ds : List D} {ns : List Int}, RepV W.K m H d x → (∀ xs, d ≠ .tup xs) → seqOf S d = some ds → intsOf ds = some ns → ∃ a, x = .ref a ∧ SqL X.K H a (ns.map V.int) := fun {d x ds ns} q nt h1 h2 => by
    obtain ⟨vs, hq, hv⟩ := seq_rep r q h1
    obtain ⟨a, rfl, hq2⟩ := hq.lst nt
    obtain rfl := intsOf_eq h2
    obtain rfl := hv.ints_inv
    exact ⟨a, rfl, by rw [hK]; exact hq2⟩
  have bls : ∀ {d : D} {x : V} {ds : List D} {ns : List Bool}, RepV W.K m H d x → (∀ xs, d ≠ .tup xs) → seqOf S d = some ds → blsOf ds = some ns → ∃ a, x = .ref a ∧ SqL X.K H a (ns.map V.bl) := fun {d x ds ns} q nt h1 h2 => by
    obtain ⟨vs, hq, hv⟩ := seq_rep r q h1
    obtain ⟨a, rfl, hq2⟩ := hq.lst nt
    obtain rfl := blsOf_eq h2
    obtain rfl := hv.bls_inv
    exact ⟨a, rfl, by rw [hK]; exact hq2⟩
  unfold biP at hP
  split at hP
  · -- len
    rename_i d
    obtain ⟨x, rfl, q⟩ := qs.one
    have seq : ∀ {ds : List D}, seqOf S d = some ds → R (.int ds.length) → wpAny (model X.prog X.w) X.A (call (.builtin "len") us) (EP X pins σ Q) X.xe s := fun {ds} h1 h2 => by
      obtain ⟨vs, hq, hv⟩ := seq_rep r q h1
      obtain ⟨a, rfl, hq2⟩ := hq.any
      refine call_len_seq pins s σ H _ us Q I rs ⟨a, vs, rfl, by rw [hK]; exact hq2, ?_⟩
      rw [hv.length]
      exact fin.now r h2 rfl
    split at hP
    · rename_i n
      split at hP
      · rename_i ds hs
        exact seq (by dsimp only [seqOf]; rw [hs]) hP
      · rename_i kvs hs
        obtain ⟨a, kws, rfl, _, g1, g2, g3⟩ := keys_at r q hs
        obtain ⟨u, rfl, ru⟩ := vals1 rs
        obtain rfl : u = Value.ref a := ru
        refine d_len I g1.rd fun t s' I' => ⟨.int kws.length, H, I', ⟨t, rfl⟩, ?_⟩
        have e : kws.length = kvs.length := by have := congrArg List.length g2; rw [List.length_map, List.length_map] at this; exact this.symm
        rw [e]
        exact fin.now r hP rfl
      · rename_i kvs hs
        obtain ⟨a, xs, rfl, _, g1, g2⟩ := nkeys_at r q hs
        obtain ⟨u, rfl, ru⟩ := vals1 rs
        obtain rfl : u = Value.ref a := ru
        obtain ⟨z, hsm, ys, py, dd⟩ := ndic_at hK hP' hw I g1.rd g2
        have l1 : xs.length = ys.length := Paired.length py
        have e : kvs.length = xs.length := by have := congrArg List.length g2.1; rw [List.length_map, List.length_map] at this; exact this
        refine PyProof.Rows.call_len_slot (n := ys.length) dd.typeIs F.slot_dict_len (fun Q' hq => len_keyed hsm ⟨ys, dd, rfl⟩ (by rw [pairsH_length]; exact hq)) (by omega) (by rw [sizeLine_eq] at z; omega) ⟨.int kvs.length, H, I.tok _, ⟨_, by rw [e, l1]⟩, fin.now r hP rfl⟩
      · cases hP
    · obtain ⟨ds, h1, h2⟩ := hP
      exact seq h1 h2
  · obtain ⟨x, rfl, q⟩ := qs.one
    obtain rfl : x = .int _ := q
    exact call_abs pins s σ H _ us Q I rs ⟨_, rfl, fin.now r hP rfl⟩
  · obtain ⟨x, rfl, q⟩ := qs.one
    obtain rfl : x = .int _ := q
    exact call_int1 pins s σ H _ us Q I rs (.inl ⟨_, rfl, fin.now r hP rfl⟩)
  · -- tuple
    rename_i d
    obtain ⟨x, rfl, q⟩ := qs.one
    obtain ⟨ds, h1, h2⟩ := hP
    obtain ⟨vs, ⟨a, rfl, hq⟩, hv⟩ := seq_rep r q h1
    refine call_tuple_of pins s σ H _ us Q I rs ⟨a, vs, rfl, ?_⟩
    rcases hq with ⟨hq, _⟩ | ⟨hq, xs, rfl⟩
    · exact .inl ⟨by rw [hK]; exact hq, fun p hp => fin.tup r h2 hv hp⟩
    · exact .inr ⟨by rw [hK]; exact hq.sq, fin.now r h2 ⟨a, vs, rfl, hq, hv⟩⟩
  · -- list
    rename_i d
    obtain ⟨x, rfl, q⟩ := qs.one
    obtain ⟨ds, h1, h2⟩ := hP
    obtain ⟨vs, hq, hv⟩ := seq_rep r q h1
    obtain ⟨a, rfl, hq2⟩ := hq.any
    exact call_list_of pins s σ H _ us Q I rs ⟨a, vs, rfl, by rw [hK]; exact hq2, fun p hp => fin.lst r h2 hv hp⟩
  · obtain ⟨x, rfl, q⟩ := qs.one
    obtain ⟨ds, ns, nt, h1, h2, h3⟩ := hP
    obtain ⟨a, rfl, hq⟩ := intz q nt h1 h2
    exact cr_sum hc pins s σ H _ us Q I rs ⟨a, ns, rfl, hq, fin.now r h3 rfl⟩
  · obtain ⟨x, rfl, q⟩ := qs.one
    obtain ⟨ds, ns, nt, h1, h2, h3⟩ := hP
    obtain ⟨a, rfl, hq⟩ := bls q nt h1 h2
    exact cr_all hc pins s σ H _ us Q I rs ⟨a, ns, rfl, hq, fin.now r h3 rfl⟩
  · obtain ⟨x, rfl, q⟩ := qs.one
    obtain ⟨ds, ns, nt, h1, h2, h3⟩ := hP
    obtain ⟨a, rfl, hq⟩ := bls q nt h1 h2
    exact cr_any hc pins s σ H _ us Q I rs ⟨a, ns, rfl, hq, fin.now r h3 rfl⟩
  · obtain ⟨x, rfl, q⟩ := qs.one
    obtain ⟨ds, ns, nt, h1, h2, h0, h3⟩ := hP
    obtain ⟨a, rfl, hq⟩ := intz q nt h1 h2
    exact cr_max hc pins s σ H _ us Q I rs ⟨a, ns, rfl, hq, h0, fun m' hm hle => by rw [maxI_uniq hm hle]; exact fin.now r h3 rfl⟩
  · obtain ⟨x, rfl, q⟩ := qs.one
    obtain ⟨ds, ns, nt, h1, h2, h0, h3⟩ := hP
    obtain ⟨a, rfl, hq⟩ := intz q nt h1 h2
    exact cr_min hc pins s σ H _ us Q I rs ⟨a, ns, rfl, hq, h0, fun m' hm hle => by rw [minI_uniq hm hle]; exact fin.now r h3 rfl⟩
  · obtain ⟨x, y, rfl, q1, q2⟩ := qs.two
    obtain rfl : x = .int _ := q1
    obtain rfl : y = .int _ := q2
    exact call_max2 hc pins s σ H _ us Q I rs ⟨_, _, rfl, fin.now r hP rfl⟩
  · obtain ⟨x, y, rfl, q1, q2⟩ := qs.two
    obtain rfl : x = .int _ := q1
    obtain rfl : y = .int _ := q2
    exact call_min2 hc pins s σ H _ us Q I rs ⟨_, _, rfl, fin.now r hP rfl⟩
  · -- sorted
    rename_i d
    obtain ⟨x, rfl, q⟩ := qs.one
    obtain ⟨ds, ns, h1, h2, h3⟩ := hP
    obtain ⟨vs, ⟨a, rfl, hq⟩, hv⟩ := seq_rep r q h1
    obtain rfl := intsOf_eq h2
    obtain rfl := hv.ints_inv
    obtain ⟨u, rfl, ru⟩ := vals1 rs
    obtain rfl : u = Value.ref a := ru
    have key : ∃ (its : List Value) (o : Obj) (T : String) (n : Nat), Vals (ns.map V.int) its ∧ (T = "list" ∨ T = "tuple") ∧ s.heap.get? a = some o ∧ o.cls = .type T ∧ o.data = .seq its.toArray n ∧ (ns.map V.int).length ≤ sizeLine := by
      rcases hq with ⟨hq, _⟩ | ⟨hq, _⟩
      · obtain ⟨its, rv, pl, hz⟩ := I.list (show SqL X.K H a _ by rw [hK]; exact hq)
        obtain ⟨o, ho, hc', n, hd⟩ := pl.isList
        exact ⟨its, o, "list", n, rv, .inl rfl, ho, hc', hd, hz⟩
      · obtain ⟨its, rv, pl, hz⟩ := I.tuple (show SqT X.K H a _ by rw [hK]; exact hq.sq)
        obtain ⟨o, ho, hc', n, hd⟩ := pl
        exact ⟨its, o, "tuple", n, rv, .inr rfl, ho, hc', hd, hz⟩
    obtain ⟨its, o, T, n, rv, hT, ho, hc', hd, hz⟩ := key
    have hi := rv.ints
    refine sorted_seq hT ho hc' hd SrtO.swo_int (by rw [← rv.length]; exact hz) (fun h2 h₁ a' _ _ => SrtO.ints_sortable hi h2) fun out o1 o2 => ?_
    obtain ⟨k1, k2, k3⟩ := SrtO.ints_out hi o1 o2
    obtain ⟨ep, he'⟩ := PyProof.Rows.sortedAll_at s.heap its out.toArray
    have hlen : ((out.map SrtO.iv).map V.int).length ≤ sizeLine := by
      rw [List.length_map, k2.length_eq]
      rw [List.length_map] at hz
      exact hz
    refine ⟨.ref _, upd H (s.heap.objs.size + 1) (.lst ((out.map SrtO.iv).map V.int)), I.laid (t' := s.toks) (fun _ _ => PyProof.Rows.sortedAll_old) (Nat.le_succ _) ⟨hlen, out, ep, vals_of_ints k1, he'⟩, rfl, ?_⟩
    rw [sortI_of k2 k3]
    exact fin.lst r h3 (RepVs.ints _) (I.hok.fresh (Nat.le_succ _))
  · -- sorted, of any data
    obtain ⟨x, rfl, q⟩ := qs.one
    obtain ⟨ds, h1, h2, h3⟩ := hP
    obtain ⟨u, rfl, ru⟩ := vals1 rs
    exact sorted_col hK hP' hw (by have := hr.un; omega) hr.hd I r q ru h1 h2 h3 fin
  · -- list of a dict
    obtain ⟨x, rfl, q⟩ := qs.one
    obtain ⟨n, kvs, rfl, hs, h3⟩ := hP
    obtain ⟨a, kws, rfl, _, g1, g2⟩ := keys_at r q hs
    refine call_list_dK hc pins s σ H _ us Q I rs ⟨a, kws, rfl, g1, fun p hp => ?_⟩
    have e1 : (kws.map fun kv => kV kv.1) = (kvs.map fun kv => kv.1).map kV := by rw [g2.1, List.map_map]; rfl
    rw [e1]
    refine fin.lst r h3 ?_ hp
    have := keys_rep (K := W.K) (m := m) (H := H) (kvs.map fun kv => kv.1)
    rw [List.map_map] at this
    exact this
  · cases hP
/-- isinstance against a built-in type -/
theorem call_isiP (t : Ty) : CallR X (.builtin "isinstance") fun xs H Q => ∃ x S m d R, xs = [x, .ty t.name] ∧ RelS W S m H ∧ RepV W.K m H d x ∧ isiP t d (fun k => R (.bl k)) ∧ Fin W S m H R Q := by
  intro pins s σ H xs us Q I rs h
  obtain ⟨x, S, m, d, R, rfl, r, q, hP, fin⟩ := h
  have go : ∀ {T : String} {b : Bool}, TyX X.K H x (.type T) → kitB T t.name = some b → R (.bl b) → wpAny (model X.prog X.w) X.A (call (.builtin "isinstance") us) (EP X pins σ Q) X.xe s := fun {T b} h1 h2 h3 =>
    call_isi pins s σ H _ us Q I rs ⟨x, .ty t.name, .type T, .type t.name, b, rfl, .ty _, h1, kit_ty h2, fin.now r h3 rfl⟩
  cases d with
  | non => obtain rfl : x = .non := q; refine go (.base .non) ?_ hP; cases t <;> decide +kernel
  | bl b => obtain rfl : x = .bl b := q; refine go (.base (.bl b)) ?_ hP; cases t <;> decide +kernel
  | int b => obtain rfl : x = .int b := q; refine go (.base (.int b)) ?_ hP; cases t <;> decide +kernel
  | str b => obtain rfl : x = .str b := q; refine go (.base (.str b)) ?_ hP; cases t <;> decide +kernel
  | tup ds =>
    obtain ⟨a, vs, rfl, h1, h2⟩ := q
    refine go (T := "tuple") ?_ ?_ hP
    · rcases h1 with h1 | ⟨o, its, n, h1, h2, _⟩
      · exact .base (.tup h1)
      · exact .kTuple (by rw [hK]; exact h1) h2
    · cases t <;> decide +kernel
  | fl ds =>
    obtain ⟨a, vs, rfl, _, h1, h2⟩ := q
    refine go (T := "list") (.base (.lst h1)) ?_ hP
    cases t <;> decide +kernel
  | scr ds => cases hP
  | ref n => cases hP
end
end DL

set_option Elab.async false
set_option linter.all false
set_option maxRecDepth 100000
set_option maxHeartbeats 1000000
/-! DL6: what is walked. -/
namespace DL
open PySem PySem.Spec PyProof.Rows L2

/-- the iterator J yields the data ds, from the heap H0 on, while Src stands -/
structure ItD (W : Wd) (J : L2.It) (ds : List D) (Src : Store → Prop) (m0 : Mp) (H0 : Hp) : Prop where
  go : ∀ i S m H, RelS W S m H → Ext m0 H0 m H → Src S → i < ds.length → J.go i H
  stop : ∀ i S m H, RelS W S m H → Ext m0 H0 m H → Src S → ds.length ≤ i → J.stop i H
  yld : ∀ i S m H x H', RelS W S m H → Ext m0 H0 m H → Src S → i < ds.length → J.yld i H x H' → ∃ d, ds[i]? = some d ∧ RepV W.K m H' d x ∧ Ext m H m H' ∧ RelS W S m H'
abbrev FI := Rho → Store → (List D → (Store → Prop) → Store → Prop) → Prop
def tI (W : Wd) (f : FI) : TI := fun σ H R => ∃ ρ S m Rf, Rel W ρ S m σ H ∧ f ρ S Rf ∧ ∀ ds Src S' m' H' J, Rf ds Src S' → Ext m H m' H' → RelS W S' m' H' → ItD W J ds Src m' H' → R J H'
theorem pi_imp {X : Cx} {tg e : Expr} {t t' : TI} (h : PI X tg e t) (hi : ∀ σ H Q, t' σ H Q → t σ H Q) : PI X tg e t' := ⟨fun pins s σ H Q I q => h.run pins s σ H Q I (hi σ H Q q)⟩

section
variable {W : Wd} {S0 : Store} {m0 : Mp} {H0 : Hp} {d : D} {ds es : List D} {a b : Addr} {vs ws : List V}
theorem RepVs.lt {K : PySem.W.Frag} {m : Mp} {H : Hp} (r : RepVs K m H ds vs) {i : Nat} (h : i < ds.length) : ∃ d v, ds[i]? = some d ∧ vs[i]? = some v ∧ RepV K m H d v := by
  have e : ds[i]? = some ds[i] := List.getElem?_eq_getElem h
  obtain ⟨v, h1, h2⟩ := r.get e
  exact ⟨_, v, e, h1, h2⟩
theorem itd_list {Src : Store → Prop} (h : ∀ S m H, RelS W S m H → Ext m0 H0 m H → Src S → ∃ vs, SqL W.K H a vs ∧ RepVs W.K m H ds vs) : ItD W (Itl W.K a) ds Src m0 H0 where
  go := fun i S m H r e s hi => by
    obtain ⟨vs, h1, h2⟩ := h S m H r e s
    obtain ⟨d, v, _, h4, _⟩ := h2.lt hi
    exact ⟨vs, v, h1, h4⟩
  stop := fun i S m H r e s hi => by
    obtain ⟨vs, h1, h2⟩ := h S m H r e s
    exact ⟨vs, h1, by rw [h2.length]; exact hi⟩
  yld := fun i S m H x H' r e s hi y => by
    obtain ⟨vs, h1, h2⟩ := h S m H r e s
    obtain ⟨rfl, y⟩ := y
    have q := y vs h1
    obtain ⟨d, v, h3, h4, h5⟩ := h2.lt hi
    rw [q] at h4
    cases h4
    exact ⟨d, h3, h5, Ext.refl, r⟩
theorem itd_tup (h : TupAt W.K H0 a vs) (hv : RepVs W.K m0 H0 ds vs) {Src : Store → Prop} : ItD W (Itt W.K a) ds Src m0 H0 where
  go := fun i S m H r e s hi => by
    obtain ⟨d, v, _, h4, _⟩ := (hv.ext e).lt hi
    exact ⟨vs, v, (e.z.sqT h).sq, h4⟩
  stop := fun i S m H r e s hi => ⟨vs, (e.z.sqT h).sq, by rw [hv.length]; exact hi⟩
  yld := fun i S m H x H' r e s hi y => by
    obtain ⟨rfl, y⟩ := y
    have q := y vs (e.z.sqT h).sq
    obtain ⟨d, v, h3, h4, h5⟩ := (hv.ext e).lt hi
    rw [q] at h4
    cases h4
    exact ⟨d, h3, h5, Ext.refl, r⟩
theorem rgD_get {lo : Int} {n i : Nat} (h : i < n) : (rgD lo n)[i]? = some (.int (lo + (i : Nat))) := by
  unfold rgD
  rw [List.getElem?_map, List.getElem?_range h]
  rfl
theorem rgD_length (lo : Int) (n : Nat) : (rgD lo n).length = n := by unfold rgD; rw [List.length_map, List.length_range]
theorem itd_range (lo : Int) (n : Nat) {Src : Store → Prop} : ItD W (Itr lo n) (rgD lo n) Src m0 H0 where
  go := fun i S m H r e s hi => by rw [rgD_length] at hi; exact hi
  stop := fun i S m H r e s hi => by rw [rgD_length] at hi; exact hi
  yld := fun i S m H x H' r e s hi y => by
    obtain ⟨rfl, rfl⟩ := y
    rw [rgD_length] at hi
    exact ⟨_, rgD_get hi, rfl, Ext.refl, r⟩
theorem enumD_get : ∀ {ds : List D} {i k : Nat}, (enumD k ds)[i]? = (ds[i]?).map fun d => .tup [.int ((k + i : Nat) : Int), d]
  | [], i, k => by simp [enumD]
  | d :: ds, 0, k => by simp [enumD]
  | d :: ds, i + 1, k => by
    unfold enumD
    rw [List.getElem?_cons_succ, List.getElem?_cons_succ, enumD_get, show k + 1 + i = k + (i + 1) by omega]
theorem enumD_length : ∀ {ds : List D} {k : Nat}, (enumD k ds).length = ds.length
  | [], k => rfl
  | d :: ds, k => by unfold enumD; rw [List.length_cons, List.length_cons, enumD_length]
theorem pair_new {m : Mp} {H : Hp} {S : Store} {T : Addr} {x y : V} {d e : D} (r : RelS W S m H) (hT : H T = none) (h1 : RepV W.K m H d x) (h2 : RepV W.K m H e y) :
    RepV W.K m (upd H T (.tup [x, y])) (.tup [d, e]) (.ref T) ∧ Ext m H m (upd H T (.tup [x, y])) ∧ RelS W S m (upd H T (.tup [x, y])) := by
  have ex := Ext.laid (m := m) hT (.tup [x, y])
  exact ⟨⟨T, _, rfl, .inl upd_same, RepVs.cons (h1.ext ex) (RepVs.cons (h2.ext ex) RepVs.nil)⟩, ex, r.laid hT _⟩
/-- enumerate over what stands as a row (J: list or tuple, by what it yields) -/
theorem itd_enum {Src : Store → Prop} (h : ∀ S m H, RelS W S m H → Ext m0 H0 m H → Src S → ∃ vs, SqL W.K H a vs ∧ RepVs W.K m H ds vs) : ItD W (Ite W.K a) (enumD 0 ds) Src m0 H0 where
  go := fun i S m H r e s hi => by
    rw [enumD_length] at hi
    obtain ⟨vs, h1, h2⟩ := h S m H r e s
    obtain ⟨d, v, _, h4, _⟩ := h2.lt hi
    exact ⟨vs, v, h1, h4⟩
  stop := fun i S m H r e s hi => by
    rw [enumD_length] at hi
    obtain ⟨vs, h1, h2⟩ := h S m H r e s
    exact ⟨vs, h1, by rw [h2.length]; exact hi⟩
  yld := fun i S m H x H' r e s hi y => by
    rw [enumD_length] at hi
    obtain ⟨vs, h1, h2⟩ := h S m H r e s
    obtain ⟨T, v, rfl, hT, rfl, y⟩ := y
    have q := y vs h1
    obtain ⟨d, v', h3, h4, h5⟩ := h2.lt hi
    rw [q] at h4
    cases h4
    obtain ⟨p1, p2, p3⟩ := pair_new (d := .int (i : Nat)) (x := .int (i : Nat)) r hT rfl h5
    exact ⟨_, by rw [enumD_get, h3, Nat.zero_add]; rfl, p1, p2, p3⟩
theorem zipD_get : ∀ {ds es : List D} {i : Nat} {d e : D}, ds[i]? = some d → es[i]? = some e → (zipD ds es)[i]? = some (.tup [d, e])
  | [], _, _, _, _, h, _ => by simp at h
  | _ :: _, [], _, _, _, _, h => by simp at h
  | a :: ds, b :: es, 0, d, e, h1, h2 => by
    simp at h1 h2
    subst h1; subst h2
    rfl
  | a :: ds, b :: es, i + 1, d, e, h1, h2 => by
    unfold zipD
    rw [List.getElem?_cons_succ]
    exact zipD_get (by simpa using h1) (by simpa using h2)
theorem zipD_length : ∀ {ds es : List D}, (zipD ds es).length = min ds.length es.length
  | [], es => by simp [zipD]
  | _ :: _, [] => by simp [zipD]
  | a :: ds, b :: es => by
    unfold zipD
    rw [List.length_cons, List.length_cons, List.length_cons, zipD_length]
    omega
theorem itd_zip {Src : Store → Prop} (h : ∀ S m H, RelS W S m H → Ext m0 H0 m H → Src S → ∃ vs, SqL W.K H a vs ∧ RepVs W.K m H ds vs) (h' : ∀ S m H, RelS W S m H → Ext m0 H0 m H → Src S → ∃ vs, SqL W.K H b vs ∧ RepVs W.K m H es vs) :
    ItD W (Itz W.K a b) (zipD ds es) Src m0 H0 where
  go := fun i S m H r e s hi => by
    rw [zipD_length] at hi
    obtain ⟨vs, h1, h2⟩ := h S m H r e s
    obtain ⟨d, v, _, h4, _⟩ := h2.lt (i := i) (by omega)
    obtain ⟨ws, g1, g2⟩ := h' S m H r e s
    obtain ⟨d', w, _, g4, _⟩ := g2.lt (i := i) (by omega)
    exact ⟨vs, ws, v, w, h1, g1, h4, g4⟩
  stop := fun i S m H r e s hi => by
    rw [zipD_length] at hi
    obtain ⟨vs, h1, h2⟩ := h S m H r e s
    obtain ⟨ws, g1, g2⟩ := h' S m H r e s
    exact ⟨vs, ws, h1, g1, by rw [h2.length, g2.length]; omega⟩
  yld := fun i S m H x H' r e s hi y => by
    rw [zipD_length] at hi
    obtain ⟨vs, h1, h2⟩ := h S m H r e s
    obtain ⟨ws, g1, g2⟩ := h' S m H r e s
    obtain ⟨T, v, w, rfl, hT, rfl, y, y'⟩ := y
    have q := y vs h1
    have q' := y' ws g1
    obtain ⟨d, v', h3, h4, h5⟩ := h2.lt (i := i) (by omega)
    obtain ⟨d', w', g3, g4, g5⟩ := g2.lt (i := i) (by omega)
    rw [q] at h4
    rw [q'] at g4
    cases h4
    cases g4
    obtain ⟨p1, p2, p3⟩ := pair_new r hT h5 g5
    exact ⟨_, zipD_get h3 g3, p1, p2, p3⟩
theorem unKey_rep {m : Mp} {H : Hp} (k : Key) : RepV W.K m H (unKey k) (kV k) := by
  cases k with
  | inl i => rfl
  | inr x => rfl
theorem itd_keys {o : Obj} {kvs : List (Key × D)} {kws : List (Key × V)} (h : H0 a = some (.frz o (.dK kws))) (hk : kvs.map (·.1) = kws.map (·.1)) {Src : Store → Prop} : ItD W (Itk a o kws) (kvs.map fun kv => unKey kv.1) Src m0 H0 := by
  have hl : kvs.length = kws.length := by have := congrArg List.length hk; rw [List.length_map, List.length_map] at this; exact this
  refine ⟨fun i S m H r e s hi => ?_, fun i S m H r e s hi => ?_, fun i S m H x H' r e s hi y => ?_⟩
  · rw [List.length_map] at hi; exact ⟨e.frz _ _ _ h, by omega⟩
  · rw [List.length_map] at hi; exact ⟨e.frz _ _ _ h, by omega⟩
  · obtain ⟨rfl, k, v, h1, rfl⟩ := y
    have e1 : (kvs.map (·.1))[i]? = some k := by rw [hk, List.getElem?_map, h1]; rfl
    have e2 : (kvs.map fun kv => unKey kv.1)[i]? = some (unKey k) := by
      rw [List.getElem?_map] at e1 ⊢
      cases q : kvs[i]? with
      | none => rw [q] at e1; cases e1
      | some kv => rw [q] at e1; rw [← Option.some.inj e1]; rfl
    exact ⟨_, e2, unKey_rep k, Ext.refl, r⟩
end

/-! ### the keys of a locked dict whose keys are tuples -/
def Itn (P : Program) (w : World) (a : Addr) (o : Obj) (xs : List (NestedKey × Addr × V)) : L2.It :=
  ⟨fun i H => H a = some (.frz o (NDic P w a xs)) ∧ i < xs.length, fun i H x H' => H' = H ∧ ∃ e, xs[i]? = some e ∧ x = .ref e.2.1, fun i H => H a = some (.frz o (NDic P w a xs)) ∧ xs.length ≤ i⟩
section
variable {X : Cx} {pins : List (Addr × Obj)} {σ : L2.St} {s : Shared} {H : Hp} {a : Addr} {o : Obj} {xs : List (NestedKey × Addr × V)} {P : Program} {w : World}
theorem frzN (I : L2.Inv X pins σ H s) (h : H a = some (.frz o (NDic P w a xs))) : (a == sysModules) = false ∧ s.heap.get? a = some o ∧ o.ExactDict ∧ ∃ es ep, o.data = .dict es ep ∧ es.size = xs.length ∧
    ∀ (i : Nat) e, xs[i]? = some e → ∃ en : DictEntry, es[i]? = some en ∧ en.key = .ref e.2.1 := by
  obtain ⟨hd, ⟨z, hs, ys, py, o', es, ep, ho, hx, hdt, he, _⟩, _, _⟩ := I.hok a _ h
  rw [hd] at ho
  cases ho
  refine ⟨hs, hd, hx, es, ep, hdt, ?_, fun i e hi => ?_⟩
  · have l1 : es.toList.length = (ys.map (entryOfKey (nestedKind P w))).length := by rw [he]
    have l2 : xs.length = ys.length := Paired.length py
    rw [Array.length_toList, List.length_map] at l1
    omega
  · obtain ⟨y, hy, e1, e2, _⟩ := paired_get py hi
    have q : es.toList[i]? = some (entryOfKey (nestedKind P w) y) := by rw [he, List.getElem?_map, hy]; rfl
    rw [Array.getElem?_toList] at q
    exact ⟨_, q, by show Value.ref y.2.1 = _; rw [e2]⟩
theorem turn_keysN {K : PySem.W.Frag} {tg : Expr} {es : Array DictEntry} {ep : Nat} {P' : Program} {w' : World} (it : Addr) (hod : o.data = .dict es ep) : Turn P' w' K tg (Itn P w a o xs) [it] it (fun i h => h.IsKeyIter it a i xs.length ep) where
  mem := by simp
  obj := fun i h st b hb => by
    have e : b = it := by simpa using hb
    subst e
    obtain ⟨oi, e, c, dd⟩ := st
    exact ⟨oi, e, fun v z => by rw [dd] at z; cases z⟩
  keep := fun i h h' st k => st.at fun oi e => k it (by simp) oi e
  item := by
    intro X hP hw hK hc i pins s σ H E I hf st hg
    subst hP hw hK
    obtain ⟨hd, hi⟩ := hg
    obtain ⟨f0, f1, f2, f3, f4, f5⟩ := hf it (by simp)
    obtain ⟨hs, hgd, hx, es', ep', hdt, hsz, ent⟩ := frzN I hd
    obtain ⟨rfl, rfl⟩ := dict_ep hod hdt
    obtain ⟨e, he⟩ : ∃ p, xs[i]? = some p := ⟨xs[i], List.getElem?_eq_getElem hi⟩
    obtain ⟨en, hen, hkey⟩ := ent i e he
    refine next_key_item st hgd hdt hsz hen fun h' st' sb => ?_
    have I1 : L2.Inv X pins σ H { s with heap := h' } := I.turned (t' := s.toks) (fun b ob hb e => (sb.2 b hb).trans e) f0 f1 f3 f4 f5
    obtain ⟨oi, e2, c, dd⟩ := id st'
    exact ⟨en.key, rfl, go_of (s := { s with heap := h' }) e2 c dd (by decide) ⟨.ref e.2.1, H, I1, hkey, ⟨rfl, e, he, rfl⟩, st', fun b hb => (hf b hb).1⟩⟩
  done := by
    intro X hP hw hK hc i pins s σ H E I hf st hg
    subst hP hw hK
    obtain ⟨hd, hi⟩ := hg
    obtain ⟨f0, f1, f2, f3, f4, f5⟩ := hf it (by simp)
    obtain ⟨hs, hgd, hx, es', ep', hdt, hsz, ent⟩ := frzN I hd
    obtain ⟨rfl, rfl⟩ := dict_ep hod hdt
    exact next_key_end (I.ok.hd hc) st hgd hdt hsz hi fun h' eb => ⟨rfl, I.turned (t' := s.toks) (fun b ob hb e => eb b ob hb e) f0 f1 f3 f4 f5⟩
  self := fun A i s Q E st h => by
    refine wpAny_pyIter_slot st.typeIs F.slot_dict_keyiterator_iter (wpAny_call_entry F.slot_dict_keyiterator_iter st.typeIs F.entry_dict_keyiterator_iter ?_ (F.args_dict_keyiterator_iter_1 _))
    show wpAny _ _ (ret (.ref it)) _ _ s
    exact wpAny_pure ⟨_, rfl, "dict_keyiterator", _, st.typeIs, F.slot_dict_keyiterator_next.lookup, h⟩
end
theorem itd_keysN {W : Wd} {m0 : Mp} {H0 : Hp} {a : Addr} {o : Obj} {kvs : List (NestedKey × D)} {xs : List (NestedKey × Addr × V)} (h : H0 a = some (.frz o (NDic W.P W.w a xs))) (hk : RepNs W.K m0 H0 kvs xs) {Src : Store → Prop} :
    ItD W (Itn W.P W.w a o xs) (kvs.map fun kv => unNK kv.1) Src m0 H0 := by
  have hl : kvs.length = xs.length := by have := congrArg List.length hk.1; rw [List.length_map, List.length_map] at this; exact this
  refine ⟨fun i S m H r e s hi => ?_, fun i S m H r e s hi => ?_, fun i S m H x H' r e s hi y => ?_⟩
  · rw [List.length_map] at hi; exact ⟨e.frz _ _ _ h, by omega⟩
  · rw [List.length_map] at hi; exact ⟨e.frz _ _ _ h, by omega⟩
  · obtain ⟨rfl, en, h1, rfl⟩ := y
    obtain ⟨d, v, h3, h4, h5⟩ := (hk.2.1.ext e).lt hi
    rw [List.getElem?_map, h1] at h4
    cases h4
    exact ⟨d, h3, h5, Ext.refl, r⟩

/-! ### enumerate over a tuple -/
def Itte (K : PySem.W.Frag) (a : Addr) : L2.It :=
  ⟨fun i H => ∃ (xs : List V) (x : V), SqT K H a xs ∧ xs[i]? = some x, fun i H v H' => ∃ T x, v = .ref T ∧ H T = none ∧ H' = upd H T (.tup [.int (i : Nat), x]) ∧ ∀ xs, SqT K H a xs → xs[i]? = some x, fun i H => ∃ xs : List V, SqT K H a xs ∧ xs.length ≤ i⟩
theorem itd_enumT {W : Wd} {m0 : Mp} {H0 : Hp} {a : Addr} {ds : List D} {vs : List V} (h : TupAt W.K H0 a vs) (hv : RepVs W.K m0 H0 ds vs) {Src : Store → Prop} : ItD W (Itte W.K a) (enumD 0 ds) Src m0 H0 where
  go := fun i S m H r e s hi => by
    rw [enumD_length] at hi
    obtain ⟨d, v, _, h4, _⟩ := (hv.ext e).lt hi
    exact ⟨vs, v, (e.z.sqT h).sq, h4⟩
  stop := fun i S m H r e s hi => by
    rw [enumD_length] at hi
    exact ⟨vs, (e.z.sqT h).sq, by rw [hv.length]; exact hi⟩
  yld := fun i S m H x H' r e s hi y => by
    rw [enumD_length] at hi
    obtain ⟨T, v, rfl, hT, rfl, y⟩ := y
    have q := y vs (e.z.sqT h).sq
    obtain ⟨d, v', h3, h4, h5⟩ := (hv.ext e).lt hi
    rw [q] at h4
    cases h4
    obtain ⟨p1, p2, p3⟩ := pair_new (d := .int (i : Nat)) (x := .int (i : Nat)) r hT rfl h5
    exact ⟨_, by rw [enumD_get, h3, Nat.zero_add]; rfl, p1, p2, p3⟩

end DL
namespace PySem
open Sem (wp)
set_option maxHeartbeats 1000000 in
theorem dl_meets_enumerate_newB1 {v : Value} {o : Obj} {H : Heap → Prop} (B : Begins v o H) :
    Meets (Builtin.«enumerate.__new__» ⟨[.type "enumerate", v], []⟩) (fun _ R s => H s.heap ∧
      R (.ok (.ret (.ref (s.heap.push o).objs.size))) { s with heap := (s.heap.push o).push { cls := .type "enumerate", data := .fields #[.none, .bool false, .ref s.heap.objs.size, rawInt 0, .none, .none] } }) :=
  .of_wp fun prog w A R s h => by
    obtain ⟨hp, g, d, tk, os⟩ := s; obtain ⟨h1, h⟩ := h
    have hsub := sub_enumerate
    have q1 : ∀ {A' : Around} {E : Value → Shared → Prop} {Q : Value → Shared → Prop}, Q (.ref hp.objs.size) ⟨hp.push o, g, d, tk, os⟩ → wpAny (model prog w) A' (pyIter v) Q E ⟨hp, g, d, tk, os⟩ :=
      fun q => B.iter prog w _ _ ⟨hp, g, d, tk, os⟩ _ h1 q
    wp_walk using q1
    refine wpAny_stack_any fun st => wpAny_pure ?_
    split
    · rename_i c _ _ _ _ _
      cases (c == Value.type "enumerate")
      · wp_walk using q1
        exact ⟨_, rfl, h⟩
      · wp_walk using q1
        exact ⟨_, rfl, h⟩
    · wp_walk using q1
      exact ⟨_, rfl, h⟩
theorem dl_call_enumerate {prog : Program} {w : World} {A : Around} {E : Value → Shared → Prop} {s : Shared} {v : Value} {o : Obj} {H : Heap → Prop} {Q : Value → Shared → Prop} (B : Begins v o H) (h1 : H s.heap)
    (h : ∀ h', IsEnum h' (s.heap.objs.size + 1) s.heap.objs.size 0 .none → h'.get? s.heap.objs.size = some o → h'.objs.size = s.heap.objs.size + 2 →
      (∀ b o, s.heap.get? b = some o → h'.get? b = some o) → Q (.ref (s.heap.objs.size + 1)) { s with heap := h' }) :
    wpAny (model prog w) A (call (.type "enumerate") [v]) Q E s := by
  refine callType_new F.called_enumerate (by decide) (F.typeCall_enumerate_1 _) (F.newCall_enumerate_1 _) (fun obj => F.args_object_init_2 obj _) F.entry_enumerate_new
    (dl_meets_enumerate_newB1 B) ⟨h1, ?_⟩
  have hz : (s.heap.push o).objs.size = s.heap.objs.size + 1 := Heap.size_push ..
  show _ ∧ _
  rw [hz]
  have he : IsEnum ((s.heap.push o).push
      { cls := .type "enumerate", data := .fields #[.none, .bool false, .ref s.heap.objs.size, rawInt 0, .none, .none] }) (s.heap.objs.size + 1) s.heap.objs.size 0 .none := by
    have := Heap.get?_push_size (s.heap.push o)
      (o := { cls := .type "enumerate", data := .fields #[.none, .bool false, .ref s.heap.objs.size, rawInt 0, .none, .none] }) rfl
    rw [hz] at this; exact this
  refine ⟨⟨_, he, rfl⟩, h _ he (Heap.get?_push_of_some _ (Heap.get?_push_size _ B.free)) (by rw [Heap.size_push, hz]) fun b o x => Heap.get?_push_of_some _ (Heap.get?_push_of_some _ x)⟩
/-- the end of a tuple's walk, wherever it stands behind its items -/
theorem dl_draws_end {prog : Program} {w : World} {A : Around} (hh : A.handled = none) (it t : Addr) (items : Array Value) {i : Nat} (hi : items.size ≤ i) :
    Draws prog w A it [it, t] i (fun _ _ => True) (fun j h => j = i ∧ h.IsTupleIter it t j ∧ h.IsTuple t items) where
  live := fun _ _ st => let ⟨o, ho, _⟩ := st.2.1; ⟨o, ho⟩
  frame := fun _ _ _ st hk => ⟨st.1, st.2.1.at fun o e => hk it (by simp) o e, st.2.2.at fun o e => hk t (by simp) o e⟩
  item := fun j s Q E hi st hQ => by
    have := st.1
    omega
  done := fun s Q E st hE => wpAny_nextOf_tuple_end hh st.2.1 st.2.2 (by simp; omega) hE
end PySem
namespace DL
open PySem PySem.Spec PyProof.Rows L2
theorem turn_enumT {P : Program} {w : World} {K : PySem.W.Frag} {elts : List Expr} {kk : Nat} {tpos : Pos} (a e it : Addr) :
    Turn P w K (.Tuple elts kk tpos) (Itte K a) [e, it] e (fun i h => (∃ old, IsEnum h e it ((i : Nat) : Int) old) ∧ h.IsTupleIter it a i ∧ e ≠ it) where
  mem := by simp
  obj := fun i h st b hb => by
    obtain ⟨⟨old, he⟩, ⟨o, ho, hc, hd⟩, _⟩ := st
    have e' : b = e ∨ b = it := by simpa using hb
    rcases e' with z | z
    · rw [z]; exact ⟨_, he, fun v q => nomatch q⟩
    · rw [z]; exact ⟨o, ho, fun v q => by rw [hd] at q; cases q⟩
  keep := fun i h h' st k => let ⟨⟨old, he⟩, hi, hne⟩ := st; ⟨⟨old, k e (by simp) _ he⟩, hi.at fun o q => k it (by simp) o q, hne⟩
  item := by
    intro X hP hw hK hc i pins s σ H E I hf st hg
    subst hP hw hK
    obtain ⟨⟨old, he⟩, hit, hne⟩ := st
    obtain ⟨xs, x, hq, hx⟩ := hg
    obtain ⟨its, rv, p, hz⟩ := I.tuple hq
    obtain ⟨u, hu, ru⟩ := rv.get hx
    have hel : e < s.heap.objs.size := Heap.lt_size he
    have hil : it < s.heap.objs.size := by obtain ⟨_, q, _⟩ := hit; exact Heap.lt_size q
    have pt : s.heap.IsTuple a its.toArray := p
    have hal : a < s.heap.objs.size := by obtain ⟨_, q, _⟩ := pt; exact Heap.lt_size q
    have nea : ∀ {b : Addr} {ob : Obj}, s.heap.get? b = some ob → ob.cls ≠ .type "tuple" → b ≠ a := fun {b ob} h1 h2 z => by
      obtain ⟨ob2, q, c, _⟩ := pt
      rw [← z, h1] at q
      cases q
      exact h2 c
    have ne1 : e ≠ a := nea he (by intro z; exact absurd (Value.type.inj z) (by decide))
    have ne2 : it ≠ a := by
      obtain ⟨oi, q, c, _⟩ := id hit
      refine nea q fun z => ?_
      rw [c] at z
      exact absurd (Value.type.inj z) (by decide)
    have hlt : i < its.toArray.size := by
      have := (List.getElem?_eq_some_iff.mp hu).1
      simpa using this
    refine wpAny_pyNext_enum_itemD (Draws.tuple (A := X.A.in1) (show X.A.in1.handled = none from I.ok.hd hc) it a (Ne.symm ne2) its.toArray) he ⟨hit, pt⟩ hlt hne (by simp only [List.mem_cons, List.not_mem_nil, or_false, not_or]; exact ⟨hne, ne1⟩) fun x' h' tk hPx ho hit' hT hsz hk => ?_
    have e3 : x' = u := by
      have : its[i]? = some x' := by simpa using hPx
      rw [hu] at this; exact (Option.some.inj this).symm
    subst e3
    refine ⟨_, rfl, wpAny_letOwnedTupleGo_enum (s := { s with heap := h', toks := tk + 1 }) ho fun h'' he' sb => ?_⟩
    have hT2 : h''.get? s.heap.objs.size = some { cls := .type "tuple", data := .seq #[.int i tk, x'] } := (sb.2 _ (Nat.ne_of_gt hel)).trans hT
    have new : ObjOk X.prog X.w (upd H s.heap.objs.size (.tup [.int (i : Nat), x])) h'' s.heap.objs.size (.tup [.int (i : Nat), x]) :=
      ⟨by show 2 ≤ sizeLine; decide, [.int i tk, x'], .cons ⟨_, rfl⟩ (.cons ru .nil), ⟨_, hT2, rfl, _, rfl⟩⟩
    have I1 : L2.Inv X pins σ (upd H s.heap.objs.size (.tup [.int (i : Nat), x])) { s with heap := h'', toks := tk + 1 } :=
      I.turnedNew (ch := [e, it]) (fun b ob hb q => (sb.2 b (fun z => hb (by simp [z]))).trans (hk b ob (fun z => hb (by simp [z])) (fun z => hb (by simp [z])) q)) hf (Nat.le_refl _) new
    refine ⟨.ref s.heap.objs.size, _, I1, rfl, ⟨_, x, rfl, I.hok.fresh (Nat.le_refl _), rfl, fun ys hy => by rw [I.tuple_inj hy hq]; exact hx⟩, ⟨⟨x', ?_⟩, hit'.1.at fun o q => (sb.2 it (Ne.symm hne)).trans q, hne⟩, fun b hb => ?_⟩
    · have e1 : ((i + 1 : Nat) : Int) = (i : Int) + 1 := by omega
      rw [e1]; exact he'
    · have hb' : b < s.heap.objs.size := by
        have e' : b = e ∨ b = it := by simpa using hb
        rcases e' with z | z
        · rw [z]; exact hel
        · rw [z]; exact hil
      rw [upd_ne (Nat.ne_of_lt hb')]
      exact (hf b hb).1
  done := by
    intro X hP hw hK hc i pins s σ H E I hf st hg
    subst hP hw hK
    obtain ⟨⟨old, he⟩, hit, hne⟩ := st
    obtain ⟨xs, hq, hx⟩ := hg
    obtain ⟨its, rv, p, hz⟩ := I.tuple hq
    obtain ⟨f0, f1, f2, f3, f4, f5⟩ := hf it (by simp)
    have hl := rv.length
    exact wpAny_pyNext_enum_endD (dl_draws_end (A := X.A.in1) (show X.A.in1.handled = none from I.ok.hd hc) it a its.toArray (i := i) (by simp; omega)) he ⟨rfl, hit, p⟩ fun h' eb => ⟨rfl, I.turned (t' := s.toks) (fun b o hb e => eb b o hb e) f0 f1 f3 f4 f5⟩
  self := fun A i s Q E st h => let ⟨⟨_, he⟩, _⟩ := st; wpAny_pyIter_enum he h
end DL

set_option Elab.async false
set_option linter.all false
set_option maxRecDepth 100000
set_option maxHeartbeats 1000000
/-! DL6K: a lambda of one name called by a sort; sorting by keys. -/
namespace DL
open PySem PySem.Spec PyProof.Rows L2
section
variable {X : Cx} {pins : List (Addr × Obj)} {σ : L2.St} {H : Hp} {s : Shared}
abbrev lamNF (qual : Str) (params : Arguments) (scope : Scope) (cl : List (Str × Addr)) (c' : Addr) : NdefX.NF := ⟨"<lambda>", qual, params, [], scope, cl, c'⟩
abbrev lamX (X : Cx) (N : List Str) (F : NdefX.NF) (f : Addr) (A : Around) (s : Shared) (H : Hp) : Cx := NdefX.ncx C8.CX0 X.prog X.w X.K X.mg X.base N F f A X.stack s H C8.E0
/-- the call of the made lambda with one value -/
theorem key_call {A1 : Around} {k : Nat} {N fr : List Str} {x qual : Str} {params : Arguments} {body : Expr} {scope : Scope} {cl : List (Str × Addr)} {c' f : Addr} {pm ctv u : Value} {v : V} {ws : List (Option V)} {tb : TE} {Q : VK} {E : Value → Shared → Prop}
    (I : Inv X pins σ H s) (hr : Room (k + 1) A1) (hfr : A1.frames = X.A.frames) (S : NdefX.NScope N [x] fr scope) (hf : s.heap.get? f = some (PySem.W.kla_obj "<lambda>" qual params body scope cl pm c' ctv)) (hco : H c' = some (LamX.CodeO c' qual))
    (C : NdefX.CellsAt cl fr ws s.heap H) (hbind : bindArgs (PySem.W.kla_fn "<lambda>" qual params body scope cl pm (.ref c') ctv) ⟨[u], []⟩ = pure [(x, u)]) (rv : RelV v u)
    (hbody : ∀ (s : Shared) (H : Hp), Room k (A1.deeper (NdefX.envF (lamNF qual params scope cl c') f s.heap.objs.size)) → PE (lamX X N (lamNF qual params scope cl c') f A1 s H) body tb) (h : tb (NdefX.startF N [v] ws) H Q) :
    wpAny (model X.prog X.w) A1 (call (.ref f) [u]) (EP X pins σ Q) E s := by
  have e0 : Env0 X.prog X.w X.K X.mg X.base A1 X.stack s H := by
    have e := I.env0
    exact ⟨by rw [hfr]; exact e.frames, e.mod, e.bs, e.bsz, e.funs, e.frf, e.hok, e.bare⟩
  obtain ⟨⟨oc, vs, t, hoc, hdc, hvc⟩, _, _⟩ := I.hok c' _ hco
  refine wpAny_call (codeAny_mono (R := CR C8.CX0 X.stack X.prog X.w H s Q C8.E0) ?_ fun r s2 hq => ?_)
  · refine PySem.W.kla_callFunE hr.depth hf rfl S.co S.gen rfl ⟨c', oc, vs, t, rfl, hoc, hdc, hvc⟩ ?_
    rw [hbind]
    refine wpAny_pure (wpAny_newFunctionEnv S.nocell (fun y hy => by rw [List.mem_singleton.mp hy]; exact S.par x List.mem_cons_self) (fun h₁ hns hsb => ⟨I.nolimit.fresh _ hsb, ?_⟩) S.kind)
    have kp : ∀ b o, s.heap.get? b = some o → h₁.get? b = some o := fun b o e => hsb.extBut b o (Nat.ne_of_lt (Heap.lt_size e)) (Heap.get?_push_of_some _ e)
    have J : Inv (lamX X N (lamNF qual params scope cl c') f A1 s H) [] (NdefX.startF N [v] ws) H { s with heap := h₁, toks := s.toks + ([(x, u)] : List (Str × Value)).length } :=
      NdefX.inv_startN (ps := [x]) (us := [u]) S hr.hd e0 rfl (.cons rv .nil) C hns kp
    show codeAny _ _ (.expr body (NdefX.envF (lamNF qual params scope cl c') f s.heap.objs.size)) _ _
    refine PySem.W.kla_codeExpr (wpAny_mono ((hbody s H (hr.deeper _)).run [] _ _ H Q J h) (fun v' s' hq => ?_) fun e s' hq => hq)
    obtain ⟨w', H', J', rv', q⟩ := hq
    exact ⟨w', H', J'.os, J'.bare, J'.base, J'.hok, rv', q⟩
  · cases r with
    | error e => exact (show False from hq).elim
    | ok fl =>
      cases fl with
      | ret u => exact I.after hq
      | next => exact False.elim hq
      | brk => exact False.elim hq
      | cont => exact False.elim hq

/-! ### objects of a sort's own -/
structure Fsh (X : Cx) (pins : List (Addr × Obj)) (b : Addr) : Prop where
  lo : X.s_0.heap.objs.size ≤ b
  ne : b ≠ X.env.locals
  fs : b ∉ X.fs
  cl : ∀ x c, X.env.cells.lookup x = some c → c ≠ b
  pn : ∀ p ∈ X.pn ++ pins, p.1 ≠ b
theorem Fsh.of (I : Inv X pins σ H s) {b : Addr} (h : s.heap.objs.size ≤ b) : Fsh X pins b where
  lo := Nat.le_trans I.sz h
  ne := fun z => Nat.lt_irrefl _ (Nat.lt_of_lt_of_le I.lt (by rw [← z]; exact h))
  fs := I.nofs h
  cl := fun x c e z => by
    obtain ⟨v, o, ho, _⟩ := I.cell x c e
    exact Nat.lt_irrefl _ (Nat.lt_of_lt_of_le (Heap.lt_size ho) (by rw [z]; exact h))
  pn := fun p hp z => by
    exact Nat.lt_irrefl _ (Nat.lt_of_lt_of_le (Heap.lt_size (I.pin p hp).1) (by rw [z]; exact h))
/-- an object of ours has changed -/
theorem Inv.chg {b : Addr} {o o' : Obj} {h' : Heap} {t' : Nat} (I : Inv X ((b, o) :: pins) σ H s) (f : Fsh X pins b) (k : ∀ c u, c ≠ b → s.heap.get? c = some u → h'.get? c = some u) (hb : h'.get? b = some o') (hc : ∀ v, o'.data ≠ .cell v) :
    Inv X ((b, o') :: pins) σ H { s with heap := h', toks := t' } := by
  obtain ⟨q1, q2, q3, q4, q5⟩ := I.pin (b, o) (List.mem_append_right _ List.mem_cons_self)
  have I1 : Inv X pins σ H s := I.pins_of fun p hp => I.pin p (List.mem_append_right _ (List.mem_cons_of_mem _ hp))
  have I2 : Inv X pins σ H { s with heap := h', toks := t' } := I1.turned k q2 f.ne (.inr f.lo) f.cl f.pn
  refine I2.pins_of fun p hp => ?_
  rcases List.mem_cons.mp hp with rfl | hp
  · exact ⟨hb, q2, q3, q4, hc⟩
  · exact I2.pin p (List.mem_append_right _ hp)
/-- an object of ours is pinned -/
theorem Inv.own {b : Addr} {o : Obj} (I : Inv X pins σ H s) (f : Fsh X pins b) (hb : s.heap.get? b = some o) (hn : H b = none) (hc : ∀ v, o.data ≠ .cell v) : Inv X ((b, o) :: pins) σ H s := by
  refine I.pins_of fun p hp => ?_
  rcases List.mem_cons.mp hp with rfl | hp
  · exact ⟨hb, hn, f.ne, f.fs, hc⟩
  · exact I.pin p (List.mem_append_right _ hp)
theorem Fsh.cons {b c : Addr} {o : Obj} (f : Fsh X pins b) (h : c ≠ b) : Fsh X ((c, o) :: pins) b :=
  ⟨f.lo, f.ne, f.fs, f.cl, fun p hp => by
    rcases List.mem_append.mp hp with z | z
    · exact f.pn p (List.mem_append_left _ z)
    · rcases List.mem_cons.mp z with rfl | z
      · exact h
      · exact f.pn p (List.mem_append_right _ z)⟩
theorem Inv.unown {p : Addr × Obj} (I : Inv X (p :: pins) σ H s) : Inv X pins σ H s := I.pins_of fun r hr => I.pin r (List.mem_append_right _ (List.mem_cons_of_mem _ hr))

/-- two objects of ours are no longer looked at -/
theorem Inv.two {b c : Addr} {h' : Heap} {t' : Nat} (I : L2.Inv X pins σ H s) (fb : Fsh X pins b) (fc : Fsh X pins c) (hb : H b = none) (hc : H c = none) (k : ∀ d o, d ≠ b → d ≠ c → s.heap.get? d = some o → h'.get? d = some o) :
    ∃ G : Heap, L2.Inv X pins σ H { s with heap := G, toks := t' } ∧ (∀ d o, G.get? d = some o → h'.get? d = some o) ∧ G.get? c = none := by
  obtain ⟨G, g1, g2⟩ := L2.restrict h' fun d => decide (d ≠ c)
  have gc : G.get? c = none := g2 c (decide_eq_false fun z => z rfl)
  have up : ∀ d o, G.get? d = some o → h'.get? d = some o := fun d o q => by
    have : d ≠ c := fun z => by rw [z, gc] at q; cases q
    rw [← g1 d (decide_eq_true this)]; exact q
  have kk : ∀ d o, d ≠ b → d ≠ c → s.heap.get? d = some o → G.get? d = some o := fun d o h1 h2 q => (g1 d (decide_eq_true h2)).trans (k d o h1 h2 q)
  have nn : ∀ d u, H d = some u → d ≠ b ∧ d ≠ c := fun d u e => ⟨(fun z => by rw [z, hb] at e; cases e), (fun z => by rw [z, hc] at e; cases e)⟩
  refine ⟨G, I.step (g' := s.gens) (d' := s.drawn) (t' := t') (ch := [b, c]) (fun d hd => ?_) (fun d o _ _ hd e _ => kk d o (fun z => hd (by simp [z])) (fun z => hd (by simp [z])) e) (fun d o _ _ hd e _ => ⟨o.slots, kk d o (fun z => hd (by simp [z])) (fun z => hd (by simp [z])) e⟩)
    (fun _ _ _ _ n => n) (fun d o hd e => ⟨o, kk d o (fun z => hd (by simp [z])) (fun z => hd (by simp [z])) e⟩) (fun _ _ e => e) (fun _ _ _ e => e) (fun d ps e => ⟨#[], by rw [e]; simp⟩) (fun m hm => ?_) (fun d u e => ?_) I.bare, up, gc⟩
  · rcases List.mem_cons.mp hd with rfl | hd
    · exact ⟨.inr fb.lo, fb.ne, fb.cl, fb.pn⟩
    · obtain rfl := List.mem_singleton.mp hd
      exact ⟨.inr fc.lo, fc.ne, fc.cl, fc.pn⟩
  · obtain ⟨o, es, ep, ho, r⟩ := hm
    exact ⟨o, es, ep, kk _ o (Ne.symm fb.ne) (Ne.symm fc.ne) ho, r⟩
  · refine (I.hok d u e).stay (fun x v hx q => ?_) (fun _ q => q) fun _ _ q => q
    rcases hx with z | z
    · rw [z] at q ⊢; exact kk d v (nn d u e).1 (nn d u e).2 q
    · exact kk x v (nn x _ z).1 (nn x _ z).2 q
/-! ### list.sort by a key -/
open PySem.W (keyH_end KeepsBut KeyedOut EachIs AllAlike Sortable dataLe dataKind SortsAt sortVals keyedOut_each) in
theorem sort_keyed {W : Wd} {A1 : Around} {a f : Addr} {vs : List Value} {n : Nat} {fo : Obj} {ds : List D} {kf : D → PyData} {xs : List V} {S : Store} {m : Mp} {P : PySem.Fin → Shared → Prop} {E : Value → Shared → Prop}
    (hK : X.K = W.K) (I : Inv X ((f, fo) :: pins) σ H s) (fa : Fsh X ((f, fo) :: pins) a) (ha : H a = none) (ho : s.heap.get? a = some (seqObj "list" vs.toArray n)) (rs : RelS W S m H) (rv : Vals xs vs) (rd : RepVs W.K m H ds xs)
    (hZ : vs.length ≤ sizeLine) (hal : AllAlike (ds.map kf)) (hsk : Sortable (ds.map kf)) (hu : ∀ d ∈ ds, A1.units + (kf d).depth < cLine)
    (turn : ∀ d ∈ ds, ∀ (pins' : List (Addr × Obj)) (s' : Shared) (m' : Mp) (H' : Hp) (x : V) (v : Value), Inv X pins' σ H' s' → Ext m H m' H' → RelS W S m' H' → L2.RelV x v → RepV W.K m' H' d x → s'.heap.get? f = some fo →
      wpAny (model X.prog X.w) A1 (call (.ref f) [v]) (EP X pins' σ fun y H2 => ∃ m2 e, Ext m' H' m2 H2 ∧ RelS W S m2 H2 ∧ RepV W.K m2 H2 e y ∧ toPy e = some (kf d)) (fun _ _ => False) s')
    (h : ∀ s' H' m' ys, H' a = none → Ext m H m' H' → RelS W S m' H' → L2.Inv X ((f, fo) :: pins) σ (upd H' a (.lst ys)) s' → RepVs W.K m' H' (ds.mergeSort (dataLe false kf)) ys → P (.done (.ret .none)) s') :
    wpAny (model X.prog X.w) A1 (ksk_tree a (.ref f) false) P E s := by
  have hlv : xs.length = vs.length := rv.length
  have hld : ds.length = xs.length := rd.length.symm
  obtain ⟨e1, ho1⟩ : ∃ e1, (s.heap.update a (Obj.mapSeq fun _ => (#[] : Array Value))).get? a = some (seqObj "list" #[] e1) := ⟨_, get?_update_seq ho fun _ => #[]⟩
  have hlt : a < s.heap.objs.size := Heap.lt_size ho
  unfold ksk_tree
  refine wpAny_bind (listItems_at ho rfl (wpAny_bind (listUpdate_at ho rfl ?_ (by rw [List.size_toArray]; exact hZ) (Nat.zero_le _))))
  refine wpAny_bind (seqEpoch_at ho1 rfl (wpAny_bind (wpAny_newTuple ?_ (by show vs.length ≤ _; exact hZ))))
  refine wpAny_bind (wpAny_newList (wpAny_holding ?_) (Nat.zero_le _))
  -- the heap ahead of the keys
  have kS1 : ((s.heap.update a (Obj.mapSeq fun _ => (#[] : Array Value))).push (seqObj "tuple" vs.toArray 0)).objs.size = s.heap.objs.size + 1 := by rw [size_push', Heap.size_update]
  generalize hkS : ((s.heap.update a (Obj.mapSeq fun _ => (#[] : Array Value))).push (seqObj "tuple" vs.toArray 0)).objs.size = kS at kS1 ⊢
  have ka : kS ≠ a := by rw [kS1]; exact Nat.ne_of_gt (Nat.lt_succ_of_lt hlt)
  obtain ⟨h0, hh0⟩ : ∃ h0, h0 = ((s.heap.update a (Obj.mapSeq fun _ => (#[] : Array Value))).push (seqObj "tuple" vs.toArray 0)).push (seqObj "list" #[] 0) := ⟨_, rfl⟩
  have old0 : ∀ c u, c ≠ a → s.heap.get? c = some u → h0.get? c = some u := fun c u hc q => by
    rw [hh0]
    exact Heap.get?_push_of_some _ (Heap.get?_push_of_some _ ((Heap.get?_update_ne _ _ _ _ hc).trans q))
  have at0 : h0.get? a = some (seqObj "list" #[] e1) := by rw [hh0]; exact Heap.get?_push_of_some _ (Heap.get?_push_of_some _ ho1)
  have ks0 : h0.get? kS = some (seqObj "list" #[] 0) := by rw [hh0, ← hkS]; exact Heap.get?_push_size _ rfl
  have fk : Fsh X ((f, fo) :: pins) kS := Fsh.of I (by rw [kS1]; exact Nat.le_succ _)
  have nk0 : H kS = none := I.hok.fresh (by rw [kS1]; exact Nat.le_succ _)
  have Ia : Inv X ((a, seqObj "list" vs.toArray n) :: (f, fo) :: pins) σ H s := Inv.own I fa ho ha (fun v z => by cases z)
  have Ia' : Inv X ((a, seqObj "list" #[] e1) :: (f, fo) :: pins) σ H { s with heap := h0 } := Inv.chg (t' := s.toks) Ia fa old0 at0 (fun v z => by cases z)
  have I0 : Inv X ((kS, seqObj "list" #[] 0) :: (a, seqObj "list" #[] e1) :: (f, fo) :: pins) σ H { s with heap := h0 } := Inv.own Ia' (fk.cons ka.symm) ks0 nk0 (fun v z => by cases z)
  have fk2 : Fsh X ((a, seqObj "list" #[] e1) :: (f, fo) :: pins) kS := fk.cons ka.symm
  refine (show wpAny (model X.prog X.w) A1 (ksk_rest a (.ref f) false vs.toArray e1 (.ref kS)) P E { s with heap := h0 } → _ from fun z => by rw [hh0] at z; subst hkS; exact z) ?_
  unfold ksk_rest
  refine wpAny_bind (wpAny_rule ?_)
  rw [List.forIn_toArray]
  refine wpAny_bind (ksk_fold (fun i s' => ∃ kA e H' m', L2.Inv X ((kS, seqObj "list" kA e) :: (a, seqObj "list" #[] e1) :: (f, fo) :: pins) σ H' s' ∧ H' a = none ∧ H' kS = none ∧ Ext m H m' H' ∧ RelS W S m' H' ∧
      EachIs (fun u k => ∃ y d, L2.RelV y u ∧ RepV W.K m' H' d y ∧ toPy d = some k) kA.toList ((ds.map kf).take i)) vs 0 _
    ⟨#[], 0, H, m, I0, ha, nk0, Ext.refl, rs, by rw [List.take_zero]; exact EachIs.nil⟩ ?step ?done)
  case step =>
    rintro j v s' hx ⟨kA, e, H', m', I', na', nk', ex', rs', hk⟩
    simp only [Nat.zero_add] at hk ⊢
    have hj : j < vs.length := (List.getElem?_eq_some_iff.mp hx).1
    obtain ⟨x, hxj⟩ : ∃ x, xs[j]? = some x := ⟨_, List.getElem?_eq_getElem (by omega)⟩
    obtain ⟨d, hdj⟩ : ∃ d, ds[j]? = some d := ⟨_, List.getElem?_eq_getElem (by omega)⟩
    obtain ⟨v', hv', rx⟩ := rv.get hxj
    rw [hx] at hv'
    obtain rfl := Option.some.inj hv'
    obtain ⟨x', hx', qx⟩ := rd.get hdj
    rw [hxj] at hx'
    obtain rfl := Option.some.inj hx'
    have pk := I'.pin (kS, seqObj "list" kA e) (List.mem_append_right _ List.mem_cons_self)
    have pf := I'.pin (f, fo) (List.mem_append_right _ (List.mem_cons_of_mem _ (List.mem_cons_of_mem _ List.mem_cons_self)))
    have hz : kA.size ≤ vs.length := by
      have q := hk.length
      rw [Array.length_toList, List.length_take] at q
      omega
    refine wpAny_bind (wpAny_attempt (wpAny_mono (turn d (List.mem_of_getElem? hdj) _ _ m' H' x v I' ex' rs' rx (qx.ext ex') pf.1) (fun u s2 hu => ?_) fun _ _ z => z.elim))
    obtain ⟨y, H2, I2, ry, m2, d2, ex2, rs2, qy, hp⟩ := hu
    have pk2 := I2.pin (kS, seqObj "list" kA e) (List.mem_append_right _ List.mem_cons_self)
    have pa2 := I2.pin (a, seqObj "list" #[] e1) (List.mem_append_right _ (List.mem_cons_of_mem _ List.mem_cons_self))
    obtain ⟨g, gg, dd, tk2, os2⟩ := s2
    obtain ⟨c2, hc2⟩ : ∃ c2, (g.update kS (Obj.mapSeq (·.push u))).get? kS = some (seqObj "list" (kA.push u) c2) := ⟨_, get?_update_seq pk2.1 (·.push u)⟩
    refine wpAny_bind (listUpdate_at pk2.1 rfl ?_ (Nat.le_trans hz hZ) (by show (kA.push u).size ≤ _; rw [Array.size_push]; omega))
    have I3 : L2.Inv X ((kS, seqObj "list" (kA.push u) c2) :: (a, seqObj "list" #[] e1) :: (f, fo) :: pins) σ H2 ⟨g.update kS (Obj.mapSeq (·.push u)), gg, dd, tk2, os2⟩ :=
      Inv.chg (t' := tk2) I2 fk2 (fun c w hc q => (Heap.get?_update_ne _ _ _ _ hc).trans q) hc2 (fun v z => by cases z)
    have ek : (ds.map kf).take (j + 1) = (ds.map kf).take j ++ [kf d] := by rw [List.take_add_one, List.getElem?_map, hdj]; rfl
    have ea : (kA.push u).toList = kA.toList ++ [u] := by simp
    refine wpAny_pure ⟨rfl, kA.push u, c2, H2, m2, I3, pa2.2.1, pk2.2.1, ex'.tr rs' ex2, rs2, ?_⟩
    rw [ea, ek]
    refine PySem.W.each_snoc (R := fun (w : Value) (k : PyData) => ∃ y d, L2.RelV y w ∧ RepV W.K m2 H2 d y ∧ toPy d = some k) ⟨y, d2, ry, qy, hp⟩ ?_
    exact hk.mono fun w k ⟨y0, d0, r0, q0, p0⟩ => ⟨y0, d0, r0, q0.ext ex2, p0⟩
  case done =>
    rintro s' ⟨kA, e, H', m', I', na', nk', ex', rs', hk⟩
    rw [List.take_of_length_le (by rw [List.length_map]; omega)] at hk
    have pk := I'.pin (kS, seqObj "list" kA e) (List.mem_append_right _ List.mem_cons_self)
    have pa := I'.pin (a, seqObj "list" #[] e1) (List.mem_append_right _ (List.mem_cons_of_mem _ List.mem_cons_self))
    have hk' : EachIs (fun v k => ∃ as, Reads s'.heap v k as) kA.toList (ds.map kf) := hk.mono fun w k ⟨y0, d0, r0, q0, p0⟩ => L2.Dp.reads I' k y0 w (by rw [hK]; exact dp_of d0 k y0 p0 q0) r0
    have hsz : kA.size = vs.length := by
      have q := hk'.length
      rw [Array.length_toList, List.length_map] at q
      omega
    refine wpAny_bind (listItems_at pk.1 rfl ?_)
    obtain ⟨G, g1, g2⟩ := L2.restrict s'.heap fun b => decide (b ≠ kS)
    have gS : G.get? kS = none := g2 kS (decide_eq_false fun z => z rfl)
    have gk : KeepsBut a G s'.heap := fun b o hb q => by
      have hb2 : b ≠ kS := fun z => by rw [z, gS] at q; cases q
      rw [← g1 b (decide_eq_true hb2)]; exact q
    refine keyH_end (κ := dataKind s'.heap (ds.map kf)) (h₁ := G) gk gS pk.1 pa.1 ka (SortsAt.data hk' hal hsk fun k hk => ?_) hsz hZ fun h3 tk3 c k3 n3 => ?_
    · obtain ⟨d, hd, rfl⟩ := List.mem_map.mp hk
      exact hu d hd
    have ko : KeyedOut false (ds.map kf) vs (sortVals (dataKind s'.heap (ds.map kf)) false kA.toList vs) := ⟨s'.heap, kA.toList, hal, rfl, hk'⟩
    have hR : EachIs (fun v d => ∃ x, L2.RelV x v ∧ RepV W.K m' H' d x) vs ds := by
      have go : ∀ {vs : List Value} {xs : List V} {ds : List D}, Vals xs vs → RepVs W.K m H ds xs → EachIs (fun v d => ∃ x, L2.RelV x v ∧ RepV W.K m' H' d x) vs ds := fun {vs} => by
        induction vs with
        | nil =>
          intro xs ds h1 h2
          cases h1
          cases ds with
          | nil => exact .nil
          | cons d ds => unfold RepVs at h2; obtain ⟨_, _, z, _⟩ := h2; cases z
        | cons v vs ih =>
          intro xs ds h1 h2
          cases h1 with
          | cons r1 r2 =>
            cases ds with
            | nil => unfold RepVs at h2; cases h2
            | cons d ds =>
              unfold RepVs at h2
              obtain ⟨_, _, z, q1, q2⟩ := h2
              cases z
              exact .cons ⟨_, r1, q1.ext ex'⟩ (ih r2 q2)
      exact go rv rd
    have hO := keyedOut_each kf ko hR
    obtain ⟨ys, hy1, hy2⟩ := outs_of hO
    have k4 : ∀ b o, b ≠ kS → b ≠ a → s'.heap.get? b = some o → h3.get? b = some o := fun b o h1 h2 q => k3 b o h2 ((g1 b (decide_eq_true h1)).trans q)
    have I1 : L2.Inv X ((f, fo) :: pins) σ H' s' := Inv.unown (Inv.unown I')
    have I2 := Inv.two (t' := tk3) I1 fk fa nk' na' k4
    obtain ⟨G3, I3, u1, u2⟩ := I2
    have hlen : ys.length ≤ sizeLine := by
      rw [hy1.length, PySem.W.sortVals_length false (by rw [Array.length_toList]; exact hsz)]
      exact hZ
    refine h { s' with heap := h3, toks := tk3 } H' m' ys na' ex' rs' (Inv.laidN (s := { s' with heap := G3, toks := tk3 }) (t' := tk3) I3 u1 u2 na' ?_) hy2
    exact ⟨hlen, _, c, hy1, n3⟩
end
end DL

set_option Elab.async false
set_option linter.all false
set_option maxRecDepth 100000
set_option maxHeartbeats 1000000
/-! DL7: the soundness of expressions, case by case. -/
namespace DL
open PySem PySem.Spec PyProof.Rows L2

/-- a def by what it is worth -/
def spD (W : Wd) (φ : Phi) : Sp := fun vs H Q _ => ∃ S m ds R, RelS W S m H ∧ RepVs W.K m H ds vs ∧ φ ds S R ∧ ∀ d S' m' H' v, R d S' → Ext m H m' H' → RelS W S' m' H' → RepV W.K m' H' d v → Q v H'
/-- the def at f keeps φ -/
def Fn1 (W : Wd) (mg : Str → Option Value) (base : Heap) (k : Nat) (f : Addr) (φ : Phi) : Prop :=
  ∃ fd ps, FnOk W.P W.w W.K mg base L2.CX0 k f fd ps (spD W φ) ∧ Binds W.K fd ps []
def bltNames : List Str := ["len", "abs", "int", "tuple", "list", "sum", "all", "any", "max", "min", "sorted", "range", "enumerate", "zip", "isinstance", "bool", "str", "dict", "set", "repr"]
/-- what the names of the text lead to -/
structure Lk (W : Wd) (nm : Nm) (G : Nat → Option Phi) (C : Nat → Option Int) (k : Nat) (mg : Str → Option Value) (base : Heap) : Prop where
  fns : ∀ j φ x, nm.g j = some x → G j = some φ → ∃ f, Fn1 W mg base k f φ ∧ mg x = some (.ref f) ∧ PySem.W.keepIn W.K (.ref f) = true
  cst : ∀ j i x, nm.k j = some x → C j = some i → ∃ t, mg x = some (.int i t)
  blt : ∀ x ∈ bltNames, mg x = none
  cls : ∀ c ca, W.C c = some ca → Cls W.K ca
  nof : ∀ c ca, W.C c = some ca → ∀ f ∈ nm.f c, NoAttr W.K ca f
  mts : ∀ c j m φ ca, nm.m c j = some m → G j = some φ → W.C c = some ca → ∃ f, Meth W.K ca m f ∧ Fn1 W mg base k f φ
  mks : ∀ c x φ, nm.c c = some x → G (nm.i c) = some φ → ∃ ca f, W.C c = some ca ∧ Mk W.K ca f ∧ mg x = some (.ref ca) ∧ Fn1 W mg base k f φ
/-- the body of the def that calls what it got: try: return (0, read(call())) .. -/
def toldBody (rd a : Str) (b : List Stmt) : Prop := ∃ p1 p2 p3 p4 p5 p6 p7 p8 k1 k2 h hs, b = [.Try [.Return (some (.Tuple [.Constant (.int 0) k1 p1, .Call (.Name rd p2) [.Call (.Name a p3) [] [] p4] [] p5] k2 p6)) p7] (h :: hs) [] [] p8]
/-- what a call with a lambda asks -/
def TX (W : Wd) (nm : Nm) (G : Nat → Option Phi) (C : Nat → Option Int) (k : Nat) (X : Cx) : Prop := ∃ (k2 : Nat) (x a rd : Str) (st : Stmt) (g c P : Addr) (fd : FuncData) (Ng : List Str), k2 + 2 ≤ k ∧ nm.told = some x ∧ Lk W nm G C k2 X.mg X.base ∧ L2.Fun W.K x x st g fd ∧ X.mg x = some (.ref g) ∧ L2.Binds W.K fd [a] [] ∧
  FnScope Ng [a] (L2.defScope st) ∧ Ng[0]? = some a ∧ toldBody rd a (L2.defBody st) ∧ nm.g nm.rd = some rd ∧ isGlob (L2.defScope st) rd = true ∧ okName rd = true ∧ okName a = true ∧ LamX.TabB X.base X.mg c P ∧ X.env.code = .ref c ∧
  (P, X.env.qual ++ "<lambda>") ∈ W.T ∧ ∀ p ∈ W.T, p.1 = P → p.2 = X.env.qual ++ "<lambda>"
/-- what the making of a lambda asks -/
def LX (W : Wd) (nm : Nm) (G : Nat → Option Phi) (C : Nat → Option Int) (k : Nat) (X : Cx) : Prop := ∃ (k2 : Nat) (c P : Addr), k2 + 4 ≤ k ∧ Lk W nm G C k2 X.mg X.base ∧ LamX.TabB X.base X.mg c P ∧ X.env.code = .ref c ∧ (P, X.env.qual ++ "<lambda>") ∈ W.T ∧ ∀ p ∈ W.T, p.1 = P → p.2 = X.env.qual ++ "<lambda>"
structure BX (W : Wd) (nm : Nm) (G : Nat → Option Phi) (C : Nat → Option Int) (k : Nat) (X : Cx) (c : Ck) : Prop where
  K : X.K = W.K
  prog : X.prog = W.P
  w : X.w = W.w
  calm : X.calm = true
  nd : X.N.Nodup
  N : X.N = c.N
  sc : X.env.scope = c.sc
  kind : X.env.scope.kind = .function
  st : ∀ x, c.st x = true → Loc X.env.scope x ∧ (X.fn x = true ∨ X.env.scope.names.lookup x = some .local)
  room : Room (k + 1) X.A
  po : PassesOwn (model X.prog X.w) X.A X.env X.xe
  T : Lk W nm G C k X.mg X.base
  tl : c.tl = true → TX W nm G C k X
  lm : c.lm = true → LX W nm G C k X
section
variable {W : Wd} {nm : Nm} {G : Nat → Option Phi} {C : Nat → Option Int} {k : Nat} {X : Cx} {c : Ck}
theorem BX.vis (B : BX W nm G C k X c) {x : Str} (h : visB c.sc x = true) : Vis X.env.scope x := by
  rw [B.sc]
  unfold visB at h
  unfold Vis
  split at h <;> first | exact .inl (by assumption) | exact .inr (.inl (by assumption)) | exact .inr (.inr (by assumption)) | cases h
theorem BX.gl (B : BX W nm G C k X c) {x : Str} (h : isGlob c.sc x = true) : Gl X x := by
  show X.env.scope.names.lookup x = _
  rw [B.sc]
  exact of_decide_eq_true h
theorem okName_1 {x : Str} (h : okName x = true) : (x == ("__debug__" : Str)) = false := by
  unfold okName at h
  rw [Bool.and_eq_true, Bool.not_eq_true', Bool.not_eq_true'] at h
  exact h.1
theorem okName_2 {x : Str} (h : okName x = true) : (x == ("__classdict__" : Str)) = false := by
  unfold okName at h
  rw [Bool.and_eq_true, Bool.not_eq_true', Bool.not_eq_true'] at h
  exact h.2
theorem BX.none (B : BX W nm G C k X c) {x : Str} (h : x ∈ bltNames) : X.mg x = none := B.T.blt x h

/-! ### simple values -/
theorem c_var {i : Nat} {x : Str} {pos : Pos} (B : BX W nm G C k X c) (h1 : c.N[i]? = some x) (h2 : visB c.sc x = true) (h3 : okName x = true) : PE X (.Name x pos) (tD W fun ρ S R => rdP ρ i fun d => R d S) := by
  refine pe_imp (pe_var (by rw [B.N]; exact h1) (B.vis h2) (okName_1 h3) (okName_2 h3)) fun σ H Q h => ?_
  obtain ⟨ρ, S, m, R, rel, h, fin⟩ := h
  unfold rdP at h
  split at h
  · rename_i d hd
    obtain ⟨v, h1, h2⟩ := rel.val i d hd
    exact ⟨v, h1, fin d S m H v h Ext.refl rel.st h2⟩
  · cases h
theorem c_gl {j : Nat} {x : Str} {pos : Pos} (B : BX W nm G C k X c) (h1 : isGlob c.sc x = true) (h2 : nm.k j = some x) (h3 : okName x = true) : PE X (.Name x pos) (tD W fun ρ S R => match C j with | some i => R (.int i) S | none => False) := by
  cases hc : C j with
  | none => exact ⟨fun pins s σ H Q I h => let ⟨_, _, _, _, _, z, _⟩ := h; z.elim⟩
  | some i =>
    obtain ⟨t, ht⟩ := B.T.cst j i x h2 hc
    refine pe_imp (pe_glob (v := .int i) (B.gl h1) ht ⟨t, rfl⟩ (okName_1 h3)) fun σ H Q h => ?_
    obtain ⟨ρ, S, m, R, rel, h, fin⟩ := h
    exact fin _ S m H _ h Ext.refl rel.st rfl
theorem c_const {x : Expr} {v : V} {d : D} (h : PE X x (tC v)) (hd : ∀ K m H, RepV K m H d v) : PE X x (tD W fun ρ S R => R d S) := by
  refine pe_imp h fun σ H Q h => ?_
  obtain ⟨ρ, S, m, R, rel, h, fin⟩ := h
  exact fin _ S m H _ h Ext.refl rel.st (hd _ _ _)

/-! ### one after another -/
theorem tD_bind {f g : FE} {σ : L2.St} {H : Hp} {Q : VK} {F : D → Rho → Store → RE → Prop} (h : tD W (fun ρ S R => f ρ S fun x S1 => F x ρ S1 R) σ H Q)
    {Q' : VK} (hq : ∀ x (ρ : Rho) S m H1 v R, Rel W ρ S m σ H1 → RepV W.K m H1 x v → F x ρ S R → (∀ d S' m' H' v, R d S' → Ext m H1 m' H' → RelS W S' m' H' → RepV W.K m' H' d v → Q v H') → Q' v H1) : tD W f σ H Q' := by
  obtain ⟨ρ, S, m, R, rel, h, fin⟩ := h
  refine ⟨ρ, S, m, _, rel, h, fun d S1 m1 H1 v hR e1 r1 q1 => ?_⟩
  exact hq d ρ S1 m1 H1 v R (rel.ext e1 r1) q1 hR fun d' S' m' H' v' hR' e2 r2 q2 => fin d' S' m' H' v' hR' (e1.tr r1 e2) r2 q2
theorem tD_two {f g : FE} {σ : L2.St} {H : Hp} {Q : VK} {F : D → D → Store → RE → Prop} (h : tD W (fun ρ S R => f ρ S fun x S1 => g ρ S1 fun y S2 => F x y S2 R) σ H Q) {Q' : V → V → Hp → Prop}
    (hq : ∀ x y S m H2 v u R, RelS W S m H2 → RepV W.K m H2 x v → RepV W.K m H2 y u → F x y S R → (∀ d S' m' H' v, R d S' → Ext m H2 m' H' → RelS W S' m' H' → RepV W.K m' H' d v → Q v H') → Q' v u H2) :
    tD W f σ H fun v H1 => tD W g σ H1 fun u H2 => Q' v u H2 := by
  refine tD_bind (g := g) (F := fun x ρ S1 R => g ρ S1 fun y S2 => F x y S2 R) h fun x ρ S m H1 v R rel qx hF fin => ?_
  refine ⟨ρ, S, m, _, rel, hF, fun y S2 m2 H2 u hR e2 r2 qy => ?_⟩
  exact hq x y S2 m2 H2 v u R r2 (qx.ext e2) qy hR fun d S' m' H' v' hR' e3 r3 q3 => fin d S' m' H' v' hR' (e2.tr r2 e3) r3 q3
theorem c_op2 {a b : Expr} {fa fb : FE} {r : R2} {F : Store → D → D → (D → Prop) → Prop} {x : Expr} (hp : PE X x (tOp r (tD W fa) (tD W fb))) (hr : r = rV2 W F) : PE X x (tD W fun ρ S R => fa ρ S fun x S1 => fb ρ S1 fun y S2 => F S2 x y fun d => R d S2) := by
  subst hr
  refine pe_imp hp fun σ H Q h => ?_
  refine tD_two (g := fb) (F := fun x y S2 R => F S2 x y fun d => R d S2) h fun x y S m H2 v u R rs qx qy hF fin => ?_
  exact ⟨S, m, x, y, _, rs, qx, qy, hF, fun d' hd v' H' e r q => fin d' S m H' v' hd e r q⟩
theorem c_bin {o : Operator} {a b : Expr} {pos : Pos} {fa fb : FE} (B : BX W nm G C k X c) (ha : PE X a (tD W fa)) (hb : PE X b (tD W fb)) :
    PE X (.BinOp a o b pos) (tD W fun ρ S R => fa ρ S fun x S1 => fb ρ S1 fun y S2 => binP S2 o x y fun d => R d S2) :=
  c_op2 (a := a) (b := b) (F := fun S x y R => binP S o x y R) (pe_op (op_bin B.K B.room o) ha hb) rfl
theorem c_cmp {o : CmpOp} {a b : Expr} {pos : Pos} {fa fb : FE} (B : BX W nm G C k X c) (hp : plainX b = true) (ha : PE X a (tD W fa)) (hb : PE X b (tD W fb)) :
    PE X (.Compare a [o] [b] pos) (tD W fun ρ S R => fa ρ S fun x S1 => fb ρ S1 fun y S2 => cmpP S2 o x y fun k => R (.bl k) S2) :=
  c_op2 (a := a) (b := b) (F := fun S x y R => cmpP S o x y fun k => R (.bl k)) (pe_cmpR (op_cmp B.K B.prog B.w B.room o) ha hb (mark_plain hp o)) rfl
theorem c_ix {a b : Expr} {pos : Pos} {fa fb : FE} (B : BX W nm G C k X c) (hp : plainX b = true) (ha : PE X a (tD W fa)) (hb : PE X b (tD W fb)) :
    PE X (.Subscript a b pos) (tD W fun ρ S R => fa ρ S fun x S1 => fb ρ S1 fun y S2 => ixP S2 x y fun d => R d S2) :=
  c_op2 (a := a) (b := b) (F := fun S x y R => ixP S x y R) (pe_ix (ix_P B.K B.prog B.w B.room) ha hb (ix_plain hp)) rfl
theorem c_neg {a : Expr} {pos : Pos} {fa : FE} (ha : PE X a (tD W fa)) : PE X (.UnaryOp .USub a pos) (tD W fun ρ S R => fa ρ S fun x S1 => match x with | .int i => R (.int (-i)) S1 | _ => False) := by
  refine pe_imp (pe_un un_neg ha) fun σ H Q h => ?_
  refine tD_bind (g := fa) (F := fun x ρ S1 R => match x with | .int i => R (.int (-i)) S1 | _ => False) h fun x ρ S m H1 v R rel qx hF fin => ?_
  cases x with
  | int i =>
    obtain rfl : v = .int i := qx
    exact ⟨i, rfl, fin _ S m H1 _ hF Ext.refl rel.st rfl⟩
  | _ => cases hF
theorem tT_tD {f : FE} {σ : L2.St} {H : Hp} {Q : Bool → Hp → Prop} (h : tT W f σ H Q) : tD W f σ H fun x H' => ∃ k, x = .bl k ∧ Q k H' := by
  obtain ⟨ρ, S, m, R, rel, h, fin⟩ := h
  refine ⟨ρ, S, m, R, rel, h, fun d S' m' H' v hR e r q => ?_⟩
  obtain ⟨k, rfl, q2⟩ := fin d S' m' H' hR e r
  exact ⟨k, q, q2⟩
/-- a test that is its value's truth -/
theorem c_test {x : Expr} {f : FE} (h : PE X x (tD W f)) (ht : testX x = true) : PT X x (tT W f) :=
  pt_imp (pt_val h (truth_plain ht X.env)) fun σ H Q q => tT_tD q
theorem c_cmpT {o : CmpOp} {a b : Expr} {pos : Pos} {fa fb : FE} (B : BX W nm G C k X c) (hp : plainX b = true) (ha : PE X a (tD W fa)) (hb : PE X b (tD W fb)) :
    PT X (.Compare a [o] [b] pos) (tT W fun ρ S R => fa ρ S fun x S1 => fb ρ S1 fun y S2 => cmpP S2 o x y fun k => R (.bl k) S2) := by
  refine pt_imp (pt_cmpR (op_cmp B.K B.prog B.w B.room o) ha hb (mark_plain hp o)) fun σ H Q h => ?_
  refine tD_two (g := fb) (F := fun x y S2 R => cmpP S2 o x y fun k => R (.bl k) S2) (tT_tD h) fun x y S m H2 v u R rs qx qy hF fin => ?_
  exact ⟨S, m, x, y, fun d => R d S, rs, qx, qy, hF, fun d' hd v' H' e r q => fin d' S m H' v' hd e r q⟩
theorem eqP_mono {S : Store} {x y : D} {P P' : Bool → Prop} (hp : ∀ k, P k → P' k) (h : eqP S x y P) : eqP S x y P' := by
  unfold eqP at h ⊢
  split at h
  · exact ⟨h.1, h.2.1, hp _ h.2.2⟩
  · cases h
theorem inP_mono {S : Store} {x y : D} {P P' : Bool → Prop} (hp : ∀ k, P k → P' k) (h : inP S x y P) : inP S x y P' := by
  cases y with
  | ref n =>
    dsimp only [inP] at h ⊢
    split at h
    · obtain ⟨k, h1, h2⟩ := h; exact ⟨k, h1, hp _ h2⟩
    · obtain ⟨k, h1, h2⟩ := h; exact ⟨k, h1, hp _ h2⟩
    · obtain ⟨a, bs, h1, h2, h3, h4, h5⟩ := h; exact ⟨a, bs, h1, h2, h3, h4, hp _ h5⟩
    · cases h
  | fl ds => obtain ⟨a, bs, h1, h2, h3, h4, h5⟩ := h; exact ⟨a, bs, h1, h2, h3, h4, hp _ h5⟩
  | tup ds =>
    rcases h with ⟨i, ns, h1, h2, h3⟩ | ⟨a, bs, h1, h2, h3, h4, h5⟩
    · exact .inl ⟨i, ns, h1, h2, hp _ h3⟩
    · exact .inr ⟨a, bs, h1, h2, h3, h4, hp _ h5⟩
  | _ => cases h
theorem cmpP_mono {S : Store} {o : CmpOp} {x y : D} {P P' : Bool → Prop} (h : cmpP S o x y P) (hp : ∀ k, P k → P' k) : cmpP S o x y P' := by
  cases o with
  | Eq => exact eqP_mono (S := S) hp h
  | NotEq => exact eqP_mono (S := S) (fun k => hp (!k)) h
  | In => exact inP_mono hp h
  | NotIn => exact inP_mono (fun k => hp (!k)) h
  | Is =>
    dsimp only [cmpP] at h ⊢
    split at h
    · exact hp _ h
    · exact hp _ h
    · cases h
  | IsNot =>
    dsimp only [cmpP] at h ⊢
    split at h
    · exact hp _ h
    · exact hp _ h
    · cases h
  | _ =>
    dsimp only [cmpP] at h ⊢
    split at h
    · exact hp _ h
    · cases h
theorem chain_imp {o o' : CmpOp} {fa fb fc : FE} {σ : L2.St} {H : Hp} {Q : VK}
    (h : tD W (fun ρ S R => fa ρ S fun x S1 => fb ρ S1 fun y S2 => cmpP S2 o x y fun k => if k = true then fc ρ S2 fun z S3 => cmpP S3 o' y z fun k' => R (.bl k') S3 else R (.bl false) S2) σ H Q) :
    tChain (rV2 W fun S x y R => cmpP S o x y fun k => R (.bl k)) (rV2 W fun S x y R => cmpP S o' x y fun k => R (.bl k)) (tD W fa) (tD W fb) (tD W fc) σ H Q := by
  refine tD_bind (g := fa) (F := fun x ρ S1 R => fb ρ S1 fun y S2 => cmpP S2 o x y fun k => if k = true then fc ρ S2 fun z S3 => cmpP S3 o' y z fun k' => R (.bl k') S3 else R (.bl false) S2) h fun x ρ S m H1 v R rel qx hF fin => ?_
  refine ⟨ρ, S, m, _, rel, hF, fun y S2 m2 H2 u hR e2 r2 qy => ?_⟩
  refine ⟨S2, m2, x, y, fun d => ∃ k, d = .bl k ∧ if k = true then fc ρ S2 fun z S3 => cmpP S3 o' y z fun k' => R (.bl k') S3 else R (.bl false) S2, r2, qx.ext e2, qy, ?_, fun d' hd v' H' e3 r3 q3 => ?_⟩
  · -- the comparison's end is weakened
    exact cmpP_mono hR fun k hk => ⟨k, rfl, hk⟩
  · obtain ⟨k, rfl, hk⟩ := hd
    obtain rfl : v' = .bl k := q3
    refine ⟨k, rfl, ?_⟩
    cases k with
    | false =>
      simp only [Bool.false_eq_true, if_false] at hk ⊢
      exact fin _ S2 m2 H' _ hk (e2.tr r2 e3) r3 rfl
    | true =>
      simp only [if_true] at hk ⊢
      refine ⟨ρ, S2, m2, _, (rel.ext (e2.tr r2 e3) r3), hk, fun z S4 m4 H4 w4 hR4 e4 r4 q4 => ?_⟩
      exact ⟨S4, m4, y, z, fun d => R d S4, r4, (qy.ext e3).ext e4, q4, hR4, fun d' hd v' H' e5 r5 q5 => fin d' S4 m4 H' v' hd ((e2.tr r2 e3).tr r3 (e4.tr r4 e5)) r5 q5⟩
theorem marks_plain {o o' : CmpOp} {b d : Expr} (h : plainX d = true) : lastMarks [o, o'] [b, d] = false := by
  show behindInMarks o' d = false
  exact mark_plain h o'
theorem c_chain {o o' : CmpOp} {a b d : Expr} {pos : Pos} {fa fb fc : FE} (B : BX W nm G C k X c) (hp : plainX d = true) (ha : PE X a (tD W fa)) (hb : PE X b (tD W fb)) (hc : PE X d (tD W fc)) :
    PE X (.Compare a [o, o'] [b, d] pos) (tD W fun ρ S R => fa ρ S fun x S1 => fb ρ S1 fun y S2 => cmpP S2 o x y fun k => if k = true then fc ρ S2 fun z S3 => cmpP S3 o' y z fun k' => R (.bl k') S3 else R (.bl false) S2) :=
  pe_imp (pe_chain (op_cmp B.K B.prog B.w B.room o) (op_cmp B.K B.prog B.w B.room o') ha hb hc (marks_plain hp)) fun σ H Q h => chain_imp h
theorem c_chainT {o o' : CmpOp} {a b d : Expr} {pos : Pos} {fa fb fc : FE} (B : BX W nm G C k X c) (hp : plainX d = true) (ha : PE X a (tD W fa)) (hb : PE X b (tD W fb)) (hc : PE X d (tD W fc)) :
    PT X (.Compare a [o, o'] [b, d] pos) (tT W fun ρ S R => fa ρ S fun x S1 => fb ρ S1 fun y S2 => cmpP S2 o x y fun k => if k = true then fc ρ S2 fun z S3 => cmpP S3 o' y z fun k' => R (.bl k') S3 else R (.bl false) S2) :=
  pt_imp (pt_chain (op_cmp B.K B.prog B.w B.room o) (op_cmp B.K B.prog B.w B.room o') ha hb hc (marks_plain hp)) fun σ H Q h => chain_imp (tT_tD h)

/-! ### and, or, not, if -/
theorem boolP_inv {x : D} {P : Bool → Prop} (h : boolP x P) : ∃ k, x = .bl k ∧ P k := by
  cases x with
  | bl k => exact ⟨k, rfl, h⟩
  | _ => cases h
theorem tT_bind {f : FE} {σ : L2.St} {H : Hp} {Q : Bool → Hp → Prop} {F : D → Rho → Store → RE → Prop} (h : tT W (fun ρ S R => f ρ S fun x S1 => F x ρ S1 R) σ H Q)
    {Q' : VK} (hq : ∀ x (ρ : Rho) S m H1 v R, Rel W ρ S m σ H1 → RepV W.K m H1 x v → F x ρ S R → (∀ d S' m' H', R d S' → Ext m H1 m' H' → RelS W S' m' H' → ∃ k, d = .bl k ∧ Q k H') → Q' v H1) : tD W f σ H Q' := by
  obtain ⟨ρ, S, m, R, rel, h, fin⟩ := h
  refine ⟨ρ, S, m, _, rel, h, fun d S1 m1 H1 v hR e1 r1 q1 => ?_⟩
  exact hq d ρ S1 m1 H1 v R (rel.ext e1 r1) q1 hR fun d' S' m' H' hR' e2 r2 => fin d' S' m' H' hR' (e1.tr r1 e2) r2
/-- a test, then the rest -/
theorem tT_test {f : FE} {σ : L2.St} {H : Hp} {Q : VK} {F : Bool → Rho → Store → RE → Prop} (h : tD W (fun ρ S R => f ρ S fun x S1 => boolP x fun k => F k ρ S1 R) σ H Q)
    {Q' : Bool → Hp → Prop} (hq : ∀ x (ρ : Rho) S m H1 R, Rel W ρ S m σ H1 → F x ρ S R → (∀ d S' m' H' v, R d S' → Ext m H1 m' H' → RelS W S' m' H' → RepV W.K m' H' d v → Q v H') → Q' x H1) : tT W f σ H Q' := by
  obtain ⟨ρ, S, m, R, rel, h, fin⟩ := h
  refine ⟨ρ, S, m, _, rel, h, fun d S1 m1 H1 hR e1 r1 => ?_⟩
  obtain ⟨k, rfl, hk⟩ := boolP_inv hR
  exact ⟨k, rfl, hq k ρ S1 m1 H1 R (rel.ext e1 r1) hk fun d' S' m' H' v hR' e2 r2 q2 => fin d' S' m' H' v hR' (e1.tr r1 e2) r2 q2⟩
theorem tT_testT {f : FE} {σ : L2.St} {H : Hp} {Q : Bool → Hp → Prop} {F : Bool → Rho → Store → RE → Prop} (h : tT W (fun ρ S R => f ρ S fun x S1 => boolP x fun k => F k ρ S1 R) σ H Q)
    {Q' : Bool → Hp → Prop} (hq : ∀ x (ρ : Rho) S m H1 R, Rel W ρ S m σ H1 → F x ρ S R → (∀ d S' m' H', R d S' → Ext m H1 m' H' → RelS W S' m' H' → ∃ k, d = .bl k ∧ Q k H') → Q' x H1) : tT W f σ H Q' := by
  obtain ⟨ρ, S, m, R, rel, h, fin⟩ := h
  refine ⟨ρ, S, m, _, rel, h, fun d S1 m1 H1 hR e1 r1 => ?_⟩
  obtain ⟨k, rfl, hk⟩ := boolP_inv hR
  exact ⟨k, rfl, hq k ρ S1 m1 H1 R (rel.ext e1 r1) hk fun d' S' m' H' hR' e2 r2 => fin d' S' m' H' hR' (e1.tr r1 e2) r2⟩
theorem c_and {a b : Expr} {rest : List Expr} {pos : Pos} {fa fr : FE} (ha : PE X a (tD W fa)) (hr : PE X (.BoolOp .And (b :: rest) pos) (tD W fr)) :
    PE X (.BoolOp .And (a :: b :: rest) pos) (tD W fun ρ S R => fa ρ S fun x S1 => boolP x fun k => if k = true then fr ρ S1 R else R (.bl false) S1) := by
  refine pe_imp (pe_and ha hr) fun σ H Q h => ?_
  refine tD_bind (g := fr) (F := fun x ρ S1 R => boolP x fun k => if k = true then fr ρ S1 R else R (.bl false) S1) h fun x ρ S m H1 v R rel qx hF fin => ?_
  obtain ⟨k, rfl, hk⟩ := boolP_inv hF
  obtain rfl : v = .bl k := qx
  refine ⟨k, rfl, ?_⟩
  cases k with
  | true => simp only [if_true] at hk ⊢; exact ⟨ρ, S, m, R, rel, hk, fin⟩
  | false => simp only [Bool.false_eq_true, if_false] at hk ⊢; exact fin _ S m H1 _ hk Ext.refl rel.st rfl
theorem c_or {a b : Expr} {rest : List Expr} {pos : Pos} {fa fr : FE} (ha : PE X a (tD W fa)) (hr : PE X (.BoolOp .Or (b :: rest) pos) (tD W fr)) :
    PE X (.BoolOp .Or (a :: b :: rest) pos) (tD W fun ρ S R => fa ρ S fun x S1 => boolP x fun k => if k = true then R (.bl true) S1 else fr ρ S1 R) := by
  refine pe_imp (pe_or ha hr) fun σ H Q h => ?_
  refine tD_bind (g := fr) (F := fun x ρ S1 R => boolP x fun k => if k = true then R (.bl true) S1 else fr ρ S1 R) h fun x ρ S m H1 v R rel qx hF fin => ?_
  obtain ⟨k, rfl, hk⟩ := boolP_inv hF
  obtain rfl : v = .bl k := qx
  refine ⟨k, rfl, ?_⟩
  cases k with
  | true => simp only [if_true] at hk ⊢; exact fin _ S m H1 _ hk Ext.refl rel.st rfl
  | false => simp only [Bool.false_eq_true, if_false] at hk ⊢; exact ⟨ρ, S, m, R, rel, hk, fin⟩
theorem c_not {a : Expr} {pos : Pos} {fa : FE} (ha : PE X a (tD W fa)) : PE X (.UnaryOp .Not a pos) (tD W fun ρ S R => fa ρ S fun x S1 => boolP x fun k => R (.bl (!k)) S1) := by
  refine pe_imp (pe_not ha) fun σ H Q h => ?_
  refine tD_bind (g := fa) (F := fun x ρ S1 R => boolP x fun k => R (.bl (!k)) S1) h fun x ρ S m H1 v R rel qx hF fin => ?_
  obtain ⟨k, rfl, hk⟩ := boolP_inv hF
  obtain rfl : v = .bl k := qx
  exact ⟨k, rfl, fin _ S m H1 _ hk Ext.refl rel.st rfl⟩
theorem c_ite {t a b : Expr} {pos : Pos} {ft fa fb : FE} (ht : PT X t (tT W ft)) (ha : PE X a (tD W fa)) (hb : PE X b (tD W fb)) :
    PE X (.IfExp t a b pos) (tD W fun ρ S R => ft ρ S fun x S1 => boolP x fun k => if k = true then fa ρ S1 R else fb ρ S1 R) := by
  refine pe_imp (pe_ifExp ht ha hb) fun σ H Q h => ?_
  refine tT_test (F := fun k ρ S1 R => if k = true then fa ρ S1 R else fb ρ S1 R) h fun k ρ S m H1 R rel hF fin => ?_
  cases k with
  | true => simp only [if_true] at hF ⊢; exact ⟨ρ, S, m, R, rel, hF, fin⟩
  | false => simp only [Bool.false_eq_true, if_false] at hF ⊢; exact ⟨ρ, S, m, R, rel, hF, fin⟩
theorem w_and {a b : Expr} {rest : List Expr} {pos : Pos} {fa fr : FE} (ha : PT X a (tT W fa)) (hr : PW X (.BoolOp .And (b :: rest) pos) (tT W fr)) :
    PW X (.BoolOp .And (a :: b :: rest) pos) (tT W fun ρ S R => fa ρ S fun x S1 => boolP x fun k => if k = true then fr ρ S1 R else R (.bl false) S1) := by
  refine pw_imp (pw_and ha hr) fun σ H Q h => ?_
  refine tT_testT (F := fun k ρ S1 R => if k = true then fr ρ S1 R else R (.bl false) S1) h fun k ρ S m H1 R rel hF fin => ?_
  cases k with
  | true => simp only [if_true] at hF ⊢; exact ⟨ρ, S, m, R, rel, hF, fin⟩
  | false =>
    simp only [Bool.false_eq_true, if_false] at hF ⊢
    obtain ⟨k, e, q⟩ := fin _ S m H1 hF Ext.refl rel.st
    cases e; exact q
theorem w_or {a b : Expr} {rest : List Expr} {pos : Pos} {fa fr : FE} (ha : PT X a (tT W fa)) (hr : PW X (.BoolOp .Or (b :: rest) pos) (tT W fr)) :
    PW X (.BoolOp .Or (a :: b :: rest) pos) (tT W fun ρ S R => fa ρ S fun x S1 => boolP x fun k => if k = true then R (.bl true) S1 else fr ρ S1 R) := by
  refine pw_imp (pw_or ha hr) fun σ H Q h => ?_
  refine tT_testT (F := fun k ρ S1 R => if k = true then R (.bl true) S1 else fr ρ S1 R) h fun k ρ S m H1 R rel hF fin => ?_
  cases k with
  | false => simp only [Bool.false_eq_true, if_false] at hF ⊢; exact ⟨ρ, S, m, R, rel, hF, fin⟩
  | true =>
    simp only [if_true] at hF ⊢
    obtain ⟨k, e, q⟩ := fin _ S m H1 hF Ext.refl rel.st
    cases e; exact q
theorem t_not {a : Expr} {pos : Pos} {fa : FE} (ha : PT X a (tT W fa)) : PT X (.UnaryOp .Not a pos) (tT W fun ρ S R => fa ρ S fun x S1 => boolP x fun k => R (.bl (!k)) S1) := by
  refine pt_imp (pt_not ha) fun σ H Q h => ?_
  refine tT_testT (F := fun k ρ S1 R => R (.bl (!k)) S1) h fun k ρ S m H1 R rel hF fin => ?_
  obtain ⟨k', e, q⟩ := fin _ S m H1 hF Ext.refl rel.st
  cases e; exact q
theorem t_ite {t a b : Expr} {pos : Pos} {ft fa fb : FE} (ht : PT X t (tT W ft)) (ha : PT X a (tT W fa)) (hb : PT X b (tT W fb)) :
    PT X (.IfExp t a b pos) (tT W fun ρ S R => ft ρ S fun x S1 => boolP x fun k => if k = true then fa ρ S1 R else fb ρ S1 R) := by
  refine ⟨fun pins s σ H Q I h => ?_⟩
  have h2 : tT W ft σ H fun k H1 => if k = true then tT W fa σ H1 Q else tT W fb σ H1 Q := by
    refine tT_testT (F := fun k ρ S1 R => if k = true then fa ρ S1 R else fb ρ S1 R) h fun k ρ S m H1 R rel hF fin => ?_
    cases k with
    | true => simp only [if_true] at hF ⊢; exact ⟨ρ, S, m, R, rel, hF, fin⟩
    | false => simp only [Bool.false_eq_true, if_false] at hF ⊢; exact ⟨ρ, S, m, R, rel, hF, fin⟩
  refine PyProof.Rows.isTrue_IfExp (thn (ht.run pins s σ H _ I h2) fun d s1 ⟨H1, I1, q1⟩ => ?_)
  cases d with
  | true => simp only [if_true] at q1 ⊢; exact ha.run pins s1 σ H1 Q I1 q1
  | false => simp only [Bool.false_eq_true, if_false] at q1 ⊢; exact hb.run pins s1 σ H1 Q I1 q1
end
end DL

set_option Elab.async false
set_option linter.all false
set_option maxRecDepth 100000
set_option maxHeartbeats 1000000
/-! DL8: the soundness of expressions: rows, calls, objects, comprehensions. -/
namespace DL
open PySem PySem.Spec PyProof.Rows L2
section
variable {W : Wd} {nm : Nm} {G : Nat → Option Phi} {C : Nat → Option Int} {k : Nat} {X : Cx} {c : Ck}

theorem d_nil : PA X [] (tDs W fun ρ S R => R [] S) := by
  refine pa_imp pa_nil fun σ H Q h => ?_
  obtain ⟨ρ, S, m, R, rel, h, fin⟩ := h
  exact fin [] S m H [] h Ext.refl rel.st RepVs.nil
theorem d_cons {x : Expr} {xs : List Expr} {f : FE} {g : Rho → Store → (List D → Store → Prop) → Prop} (hp : plainX x = true) (ha : PE X x (tD W f)) (hr : PA X xs (tDs W g)) :
    PA X (x :: xs) (tDs W fun ρ S R => f ρ S fun d S1 => g ρ S1 fun ds S2 => R (d :: ds) S2) := by
  refine pa_imp (pa_cons ha hr (star_plain hp _ _)) fun σ H Q h => ?_
  obtain ⟨ρ, S, m, R, rel, h, fin⟩ := h
  refine ⟨ρ, S, m, _, rel, h, fun d S1 m1 H1 v hR e1 r1 q1 => ?_⟩
  refine ⟨ρ, S1, m1, _, rel.ext e1 r1, hR, fun ds S2 m2 H2 vs hR2 e2 r2 q2 => ?_⟩
  exact fin (d :: ds) S2 m2 H2 (v :: vs) hR2 (e1.tr r1 e2) r2 (RepVs.cons (q1.ext e2) q2)
theorem c_tup {es : List Expr} {n : Nat} {pos : Pos} {f : Rho → Store → (List D → Store → Prop) → Prop} (ha : PA X es (tDs W f)) : PE X (.Tuple es n pos) (tD W fun ρ S R => f ρ S fun ds S1 => ds.length ≤ sizeLine ∧ R (.tup ds) S1) := by
  refine pe_imp (pe_tup ha) fun σ H Q h => ?_
  obtain ⟨ρ, S, m, R, rel, h, fin⟩ := h
  refine ⟨ρ, S, m, _, rel, h, fun ds S1 m1 H1 vs hR e1 r1 q1 => ⟨by rw [q1.length]; exact hR.1, fun p hp => ?_⟩⟩
  exact fin _ S1 m1 _ _ hR.2 (e1.tr r1 (Ext.laid hp _)) (r1.laid hp _) ⟨p, vs, rfl, .inl upd_same, q1.ext (Ext.laid hp _)⟩
theorem c_lst {es : List Expr} {pos : Pos} {f : Rho → Store → (List D → Store → Prop) → Prop} (ha : PA X es (tDs W f)) : PE X (.List es pos) (tD W fun ρ S R => f ρ S fun ds S1 => ds.length ≤ sizeLine ∧ R (.fl ds) S1) := by
  refine pe_imp (pe_lst ha) fun σ H Q h => ?_
  obtain ⟨ρ, S, m, R, rel, h, fin⟩ := h
  refine ⟨ρ, S, m, _, rel, h, fun ds S1 m1 H1 vs hR e1 r1 q1 => ⟨by rw [q1.length]; exact hR.1, fun p hp => ?_⟩⟩
  exact fin _ S1 m1 _ _ hR.2 (e1.tr r1 (Ext.laid hp _)) (r1.laid hp _) ⟨p, vs, rfl, r1.fresh hp, upd_same, q1.ext (Ext.laid hp _)⟩
theorem app_last {S : Store} {m : Mp} {H : Hp} (r : RelS W S m H) (a : Addr) : (m.app a).ad[S.length]? = some a := by
  show (m.ad ++ [a])[S.length]? = some a
  rw [List.getElem?_append_right (by rw [r.len]; exact Nat.le_refl _), r.len, Nat.sub_self]
  rfl
theorem c_newl {es : List Expr} {pos : Pos} {f : Rho → Store → (List D → Store → Prop) → Prop} (ha : PA X es (tDs W f)) : PE X (.List es pos) (tD W fun ρ S R => f ρ S fun ds S1 => ds.length ≤ sizeLine ∧ R (.ref S1.length) (S1 ++ [.lst ds])) := by
  refine pe_imp (pe_lst ha) fun σ H Q h => ?_
  obtain ⟨ρ, S, m, R, rel, h, fin⟩ := h
  refine ⟨ρ, S, m, _, rel, h, fun ds S1 m1 H1 vs hR e1 r1 q1 => ⟨by rw [q1.length]; exact hR.1, fun p hp => ?_⟩⟩
  have e2 := Ext.made r1 hp (.lst vs)
  exact fin _ _ (m1.app p) _ _ hR.2 (e1.tr r1 e2) (r1.made hp ⟨vs, upd_same, q1.ext e2⟩) ⟨p, app_last r1 p, rfl⟩
theorem c_newd {pos : Pos} : PE X (.Dict [] [] pos) (tD W fun ρ S R => R (.ref S.length) (S ++ [.dct false []])) := by
  refine pe_imp pe_dnewK fun σ H Q h => ?_
  obtain ⟨ρ, S, m, R, rel, h, fin⟩ := h
  intro p hp
  have e2 := Ext.made rel.st hp (.dK [])
  exact fin _ _ (m.app p) _ _ h e2 (rel.st.made hp ⟨[], upd_same, rfl, RepVs.nil⟩) ⟨p, app_last rel.st p, rfl⟩
theorem ndic_empty {P : Program} {w : World} {H : Hp} (h : Heap) (hb : sysModules < h.objs.size) : ObjOk P w H (h.push { cls := .type "dict", data := .dict #[] }) h.objs.size (NDic P w h.objs.size []) :=
  ⟨⟨Nat.zero_le _, beq_eq_false_iff_ne.mpr (Ne.symm (Nat.ne_of_lt hb)), [], .nil, _, #[], 0, Heap.get?_push_size _ rfl, ⟨rfl, rfl, rfl⟩, rfl, rfl, List.nodup_nil⟩, ⟨_, Heap.get?_push_size _ rfl⟩, fun h1 h2 ⟨z, hs, ys, py, o, es, ep, ho, q⟩ hk => ⟨z, hs, ys, py, o, es, ep, hk o ho, q⟩⟩
theorem c_newn {pos : Pos} (B : BX W nm G C k X c) : PE X (.Dict [] [] pos) (tD W fun ρ S R => R (.ref S.length) (S ++ [.dctN false []])) := by
  refine ⟨fun pins s σ H Q I h => ?_⟩
  obtain ⟨ρ, S, m, R, rel, h, fin⟩ := h
  have hp : H s.heap.objs.size = none := I.hok.fresh (Nat.le_refl _)
  refine wpAny_Dict_empty ⟨.ref s.heap.objs.size, _, I.laid (a := s.heap.objs.size) (o := NDic W.P W.w s.heap.objs.size []) (t' := s.toks) (fun _ _ q => Heap.get?_push_of_some _ q) (Nat.le_refl _) ?_, rfl, ?_⟩
  · rw [B.prog, B.w]
    exact ndic_empty s.heap I.big
  · have e2 := Ext.made rel.st hp (NDic W.P W.w s.heap.objs.size [])
    exact fin _ _ (m.app _) _ _ h e2 (rel.st.made hp ⟨[], upd_same, rfl, RepVs.nil, RepVs.nil, fun _ z => by cases z⟩) ⟨_, app_last rel.st _, rfl⟩

/-! ### slices -/
def tO (W : Wd) (f : Rho → Store → (Option Int → Store → Prop) → Prop) : TO := fun σ H Q => ∃ ρ S m R, Rel W ρ S m σ H ∧ f ρ S R ∧ ∀ o S' m' H', R o S' → Ext m H m' H' → RelS W S' m' H' → Q o H'
theorem po_imp {e : Option Expr} {t t' : TO} (h : PO X e t) (hi : ∀ σ H Q, t' σ H Q → t σ H Q) : PO X e t' := ⟨fun pins s σ H Q I q => h.run pins s σ H Q I (hi σ H Q q)⟩
theorem o_no : PO X none (tO W fun ρ S R => R none S) := by
  refine po_imp po_none fun σ H Q h => ?_
  obtain ⟨ρ, S, m, R, rel, h, fin⟩ := h
  exact fin none S m H h Ext.refl rel.st
theorem o_yes {x : Expr} {f : FE} (h : PE X x (tD W f)) : PO X (some x) (tO W fun ρ S R => f ρ S fun d S1 => match d with | .int i => R (some i) S1 | _ => False) := by
  refine po_imp (po_some h) fun σ H Q h => ?_
  obtain ⟨ρ, S, m, R, rel, h, fin⟩ := h
  refine ⟨ρ, S, m, _, rel, h, fun d S1 m1 H1 v hR e1 r1 q1 => ?_⟩
  cases d with
  | int i => obtain rfl : v = .int i := q1; exact ⟨i, rfl, fin _ S1 m1 H1 hR e1 r1⟩
  | _ => cases hR
theorem c_sl {a : Expr} {lo hi : Option Expr} {p2 pos : Pos} {fa : FE} {fl fh : Rho → Store → (Option Int → Store → Prop) → Prop} (B : BX W nm G C k X c) (ha : PE X a (tD W fa)) (hl : PO X lo (tO W fl)) (hh : PO X hi (tO W fh)) :
    PE X (.Subscript a (.Slice lo hi none p2) pos) (tD W fun ρ S R => fa ρ S fun x S1 => fl ρ S1 fun l S2 => fh ρ S2 fun h S3 => slP S3 x l h fun d => R d S3) := by
  refine pe_imp (pe_slice (sl_P B.K B.prog B.w) ha hl hh) fun σ H Q h => ?_
  obtain ⟨ρ, S, m, R, rel, h, fin⟩ := h
  refine ⟨ρ, S, m, _, rel, h, fun x S1 m1 H1 v hR e1 r1 q1 => ?_⟩
  refine ⟨ρ, S1, m1, _, rel.ext e1 r1, hR, fun l S2 m2 H2 hR2 e2 r2 => ?_⟩
  refine ⟨ρ, S2, m2, _, rel.ext (e1.tr r1 e2) r2, hR2, fun u S3 m3 H3 hR3 e3 r3 => ?_⟩
  exact ⟨S3, m3, x, fun d => R d S3, r3, (q1.ext e2).ext e3, hR3, fun d' hd v' H' e r q => fin d' S3 m3 H' v' hd ((e1.tr r1 e2).tr r2 (e3.tr r3 e)) r q⟩

/-! ### calls -/
theorem BX.fn1 (B : BX W nm G C k X c) {f : Addr} {φ : Phi} (F : Fn1 W X.mg X.base k f φ) : ∃ fd ps, FnOk X.prog X.w X.K X.mg X.base L2.CX0 k f fd ps (spD W φ) ∧ Binds X.K fd ps [] := by
  unfold Fn1 at F
  rw [← B.prog, ← B.w, ← B.K] at F
  exact F
theorem c_call {j : Nat} {es : List Expr} {x : Str} {p pos : Pos} {f : Rho → Store → (List D → Store → Prop) → Prop} (B : BX W nm G C k X c) (h1 : isGlob c.sc x = true) (h2 : nm.g j = some x) (h3 : okName x = true) (hp : es.all plainX = true) (hz : es = [] → f = fun ρ S R => R [] S) (ha : PA X es (tDs W f)) :
    PE X (.Call (.Name x p) es [] pos) (tD W fun ρ S R => match G j with | some φ => f ρ S fun ds S1 => φ ds S1 R | none => False) := by
  cases hG : G j with
  | none => exact ⟨fun pins s σ H Q I h => let ⟨_, _, _, _, _, z, _⟩ := h; z.elim⟩
  | some φ =>
    obtain ⟨a, F, hm, hk⟩ := B.T.fns j φ x h2 hG
    obtain ⟨fd, ps, F, b⟩ := B.fn1 F
    rw [← B.K] at hk
    have hr : Room k X.A := B.room.mono (Nat.le_succ k)
    cases es with
    | nil =>
      rw [hz rfl]
      refine pe_imp (pe_call0 (E := L2.E0) F hr (B.gl h1) hm hk b .nil L2.pass0 (okName_1 h3)) fun σ H Q h => ?_
      obtain ⟨ρ, S, m, R, rel, h, fin⟩ := h
      exact ⟨S, m, [], R, rel.st, RepVs.nil, h, fin⟩
    | cons e es =>
      rw [List.all_cons, Bool.and_eq_true] at hp
      refine pe_imp (pe_call (E := L2.E0) F hr (B.gl h1) hm hk b .nil L2.pass0 ha (okName_1 h3) (star_plain hp.1 _ _) (back_plain pos _ hp.2)) fun σ H Q h => ?_
      obtain ⟨ρ, S, m, R, rel, h, fin⟩ := h
      refine ⟨ρ, S, m, _, rel, h, fun ds S1 m1 H1 vs hR e1 r1 q1 => ?_⟩
      exact ⟨S1, m1, ds, R, r1, by rw [List.append_nil]; exact q1, hR, fun d S' m' H' v hR' e2 r2 q2 => fin d S' m' H' v hR' (e1.tr r1 e2) r2 q2⟩
theorem meth_ht {o : Expr} {m : Str} {apos pos : Pos} {es : List Expr} {env : Env} (h1 : notCall0 o = true) (h2 : es.all plainX = true) (h3 : es.length < 30) (h4 : (apos.endLine == pos.line) = true) :
    eval (.Call (.Attribute o m apos) es [] pos) env = (do
      let ov ← eval o env
      standAt apos.atName
      let (f, first) ← holding [ov] (getMethod ov m (do return (← importBound o env).getD true))
      callWith pos f first (backTo pos (starEach es env)) (backToKw pos (keywordEach [] env))) := by
  have hf : methodCallForm (es.length + ([] : List Keyword).length) (backTo pos (starEach es env)) (backToKw pos (keywordEach [] env)) = true := by
    unfold methodCallForm
    have e1 : ((backTo pos (starEach es env)).all fun x => !x.1) = true := by
      have q := back_plain (xs := es) pos env h2
      rw [List.all_eq_not_any_not]
      simp only [Bool.not_not]
      rw [q]
      rfl
    rw [e1]
    show (true && true && decide (es.length + 0 + 0 < 30)) = true
    simp only [Nat.add_zero, Bool.true_and, decide_eq_true_eq]
    exact h3
  rw [arm_eval_Call, base_plain h1]
  unfold methodCall
  rw [hf]
  have hc : methodCallPos true o env apos pos = pure pos := by
    unfold methodCallPos
    rw [h4]
    rfl
  unfold calleeOf
  rw [hc]
  simp only [if_true, pure_bind, bind_assoc]
theorem c_make {cl : Nat} {es : List Expr} {x : Str} {p pos : Pos} {f : Rho → Store → (List D → Store → Prop) → Prop} (B : BX W nm G C k X c) (h1 : isGlob c.sc x = true) (h2 : nm.c cl = some x) (h3 : okName x = true) (hp : es.all plainX = true) (hz : es = [] → f = fun ρ S R => R [] S) (ha : PA X es (tDs W f)) :
    PE X (.Call (.Name x p) es [] pos) (tD W fun ρ S R => match G (nm.i cl) with | some φ => f ρ S fun ds S1 => φ (.ref S1.length :: ds) (S1 ++ [.ins cl []]) fun d S2 => d = .non ∧ R (.ref S1.length) S2 | none => False) := by
  cases hG : G (nm.i cl) with
  | none => exact ⟨fun pins s σ H Q I h => let ⟨_, _, _, _, _, z, _⟩ := h; z.elim⟩
  | some φ =>
    obtain ⟨ca, a, hca, M, hm, F⟩ := B.T.mks cl x φ h2 hG
    obtain ⟨fd, ps, F, b⟩ := B.fn1 F
    rw [← B.K] at M
    have hr : Room (k + 1) X.A := B.room
    have imp : ∀ {S : Store} {m : Mp} {H : Hp} {ds : List D} {vs : List V} {R : RE} {Q : VK}, RelS W S m H → RepVs W.K m H ds vs → (φ (.ref S.length :: ds) (S ++ [.ins cl []]) fun d S2 => d = .non ∧ R (.ref S.length) S2) →
        (∀ d S' m' H' v, R d S' → Ext m H m' H' → RelS W S' m' H' → RepV W.K m' H' d v → Q v H') → ∀ x dx, H x = none → H dx = none → dx ≠ x →
        spD W φ (.ref x :: (vs ++ [])) (upd (upd H dx (.own x)) x (.ins ca dx [])) (fun v H2 => v = .non ∧ Q (.ref x) H2) L2.E0 := fun {S m H ds vs R Q} r q h fin x dx hx hdx hne => by
      have e1 := Ext.laid (m := m) hdx (.own x)
      have r1 := r.laid hdx (.own x)
      have hx1 : upd H dx (.own x) x = none := by rw [upd_ne (Ne.symm hne)]; exact hx
      have e2 := Ext.made r1 hx1 (.ins ca dx [])
      have r2 : RelS W (S ++ [.ins cl []]) (m.app x) (upd (upd H dx (.own x)) x (.ins ca dx [])) := r1.made hx1 ⟨ca, dx, [], hca, upd_same, rfl, RepVs.nil⟩
      refine ⟨_, m.app x, .ref S.length :: ds, _, r2, RepVs.cons ⟨x, app_last r1 x, rfl⟩ (by rw [List.append_nil]; exact (q.ext e1).ext e2), h, fun d S' m' H' v hR e3 r3 q3 => ?_⟩
      obtain ⟨rfl, hR⟩ := hR
      exact ⟨q3, fin _ S' m' H' (.ref x) hR (e1.tr r1 (e2.tr r2 e3)) r3 ⟨x, pre_get e3.pre (app_last r1 x), rfl⟩⟩
    cases es with
    | nil =>
      rw [hz rfl]
      refine pe_imp (pe_make0 (E := L2.E0) M F hr (B.gl h1) hm b .nil L2.pass0 (okName_1 h3)) fun σ H Q h => ?_
      obtain ⟨ρ, S, m, R, rel, h, fin⟩ := h
      exact imp rel.st RepVs.nil h fin
    | cons e es =>
      rw [List.all_cons, Bool.and_eq_true] at hp
      refine pe_imp (pe_make (E := L2.E0) M F hr (B.gl h1) hm b .nil L2.pass0 ha (okName_1 h3) (star_plain hp.1 _ _) (back_plain pos _ hp.2)) fun σ H Q h => ?_
      obtain ⟨ρ, S, m, R, rel, h, fin⟩ := h
      refine ⟨ρ, S, m, _, rel, h, fun ds S1 m1 H1 vs hR e1 r1 q1 => ?_⟩
      exact imp r1 q1 hR fun d S' m' H' v hR' e2 r2 q2 => fin d S' m' H' v hR' (e1.tr r1 e2) r2 q2
theorem lookup_rep {m : Mp} {H : Hp} {f : Str} : ∀ {fs : List (Str × D)} {ws : List (Str × V)}, RepFs W.K m H fs ws → (∀ d, fs.lookup f = some d → ∃ v, ws.lookup f = some v ∧ RepV W.K m H d v) ∧ (fs.lookup f = none → ws.lookup f = none)
  | [], [], _ => ⟨(fun _ h => by cases h), fun _ => rfl⟩
  | [], _ :: _, h => nomatch h.1
  | _ :: _, [], h => nomatch h.1
  | (g, d) :: fs, (g', v) :: ws, h => by
    obtain ⟨h1, h2⟩ := h
    rw [List.map_cons, List.map_cons] at h1 h2
    obtain ⟨e1, e2⟩ := List.cons.inj h1
    obtain rfl : g = g' := e1
    unfold RepVs at h2
    obtain ⟨v', r, e3, q1, q2⟩ := h2
    obtain ⟨rfl, rfl⟩ := List.cons.inj e3
    obtain ⟨i1, i2⟩ := lookup_rep (f := f) (fs := fs) (ws := ws) ⟨e2, q2⟩
    rw [List.lookup_cons, List.lookup_cons]
    cases hf : f == g with
    | true => exact ⟨fun d' z => ⟨_, rfl, by rw [← Option.some.inj z]; exact q1⟩, fun z => by cases z⟩
    | false => exact ⟨i1, i2⟩
theorem c_fld {cl : Nat} {a : Expr} {g : Str} {pos : Pos} {fa : FE} (B : BX W nm G C k X c) (h1 : notCall0 a = true) (h2 : g ∈ nm.f cl) (ha : PE X a (tD W fa)) :
    PE X (.Attribute a g pos) (tD W fun ρ S R => fa ρ S fun x S1 => ∃ n fs d, x = .ref n ∧ S1[n]? = some (.ins cl fs) ∧ fs.lookup g = some d ∧ R d S1) := by
  refine pe_imp (pe_fld ha (base_plain h1 g X.env _)) fun σ H Q h => ?_
  obtain ⟨ρ, S, m, R, rel, h, fin⟩ := h
  refine ⟨ρ, S, m, _, rel, h, fun x S1 m1 H1 v hR e1 r1 q1 => ?_⟩
  obtain ⟨n, fs, d, rfl, hn, hl, hR⟩ := hR
  obtain ⟨p, hp, rfl⟩ := q1
  obtain ⟨ca, dx, ws, hca, hH, rf⟩ := r1.ob n _ p hn hp
  obtain ⟨w, hw, qw⟩ := (lookup_rep (f := g) rf).1 d hl
  exact ⟨p, ca, dx, ws, w, rfl, hH, by rw [B.K]; exact B.T.cls cl ca hca, by rw [B.K]; exact B.T.nof cl ca hca g h2, hw, fin d S1 m1 H1 w hR e1 r1 qw⟩
theorem c_meth {cl j : Nat} {a : Expr} {es : List Expr} {g : Str} {apos pos : Pos} {fa : FE} {f : Rho → Store → (List D → Store → Prop) → Prop} (B : BX W nm G C k X c) (h1 : notCall0 a = true) (h2 : nm.m cl j = some g) (h4 : (apos.endLine == pos.line) = true) (h5 : es.length < 30)
    (hp : es.all plainX = true) (hz : es = [] → f = fun ρ S R => R [] S) (ho : PE X a (tD W fa)) (ha : PA X es (tDs W f)) :
    PE X (.Call (.Attribute a g apos) es [] pos) (tD W fun ρ S R => match G j with | some φ => fa ρ S fun x S1 => ∃ n fs, x = .ref n ∧ S1[n]? = some (.ins cl fs) ∧ fs.lookup g = none ∧ f ρ S1 fun ds S2 => φ (x :: ds) S2 R | none => False) := by
  cases hG : G j with
  | none => exact ⟨fun pins s σ H Q I h => let ⟨_, _, _, _, _, z, _⟩ := h; z.elim⟩
  | some φ =>
    cases hC : W.C cl with
    | none =>
      refine ⟨fun pins s σ H Q I h => ?_⟩
      have h2 : tD W fa σ H fun _ _ => False := by
        obtain ⟨ρ, S, m, R, rel, h, fin⟩ := h
        refine ⟨ρ, S, m, _, rel, h, fun x S1 m1 H1 v hR e1 r1 q1 => ?_⟩
        obtain ⟨n, fs, rfl, hn, hl, hR⟩ := hR
        obtain ⟨p, hp, rfl⟩ := q1
        obtain ⟨ca, dx, ws, hca, hH, rf⟩ := r1.ob n _ p hn hp
        rw [hC] at hca; cases hca
      have q := ho.run pins s σ H _ I h2
      rw [meth_ht h1 hp h5 h4]
      exact wpAny_bind (thn q fun v s1 ⟨x, H1, I1, r1, z⟩ => z.elim)
    | some ca =>
      obtain ⟨p, hm, F⟩ := B.T.mts cl j g φ ca h2 hG hC
      obtain ⟨fd, ps, F, b⟩ := B.fn1 F
      have hc := B.T.cls cl ca hC
      rw [← B.K] at hm hc
      have hr : Room k X.A := B.room.mono (Nat.le_succ k)
      cases es with
      | nil =>
        rw [hz rfl]
        refine pe_imp (pe_meth0 (E := L2.E0) ho hc hm F hr b .nil L2.pass0 (meth_ht h1 hp h5 h4)) fun σ H Q h => ?_
        obtain ⟨ρ, S, m, R, rel, h, fin⟩ := h
        refine ⟨ρ, S, m, _, rel, h, fun x S1 m1 H1 v hR e1 r1 q1 => ?_⟩
        obtain ⟨n, fs, rfl, hn, hl, hR⟩ := hR
        have q1' := q1
        obtain ⟨p, hp, rfl⟩ := q1
        obtain ⟨ca', dx, ws, hca, hH, rf⟩ := r1.ob n _ p hn hp
        obtain rfl : ca = ca' := Option.some.inj (hC.symm.trans hca)
        refine ⟨p, dx, ws, rfl, hH, (lookup_rep (f := g) rf).2 hl, ?_⟩
        exact ⟨S1, m1, [.ref n], R, r1, RepVs.cons q1' RepVs.nil, hR, fun d S' m' H' v hR' e2 r2 q2 => fin d S' m' H' v hR' (e1.tr r1 e2) r2 q2⟩
      | cons e es =>
        have hp' := hp
        rw [List.all_cons, Bool.and_eq_true] at hp
        refine pe_imp (pe_meth (E := L2.E0) ho hc hm F hr b .nil L2.pass0 ha (star_plain hp.1 _ _) (back_plain pos _ hp.2) (meth_ht h1 hp' h5 h4)) fun σ H Q h => ?_
        obtain ⟨ρ, S, m, R, rel, h, fin⟩ := h
        refine ⟨ρ, S, m, _, rel, h, fun x S1 m1 H1 v hR e1 r1 q1 => ?_⟩
        obtain ⟨n, fs, rfl, hn, hl, hR⟩ := hR
        have q1' := q1
        obtain ⟨p, hp, rfl⟩ := q1
        obtain ⟨ca', dx, ws, hca, hH, rf⟩ := r1.ob n _ p hn hp
        obtain rfl : ca = ca' := Option.some.inj (hC.symm.trans hca)
        refine ⟨p, dx, ws, rfl, hH, (lookup_rep (f := g) rf).2 hl, ?_⟩
        refine ⟨ρ, S1, m1, _, rel.ext e1 r1, hR, fun ds S2 m2 H2 vs hR2 e2 r2 q2 => ?_⟩
        exact ⟨S2, m2, .ref n :: ds, R, r2, RepVs.cons (q1'.ext e2) (by rw [List.append_nil]; exact q2), hR2, fun d S' m' H' v hR' e3 r3 q3 => fin d S' m' H' v hR' (e1.tr r1 (e2.tr r2 e3)) r3 q3⟩
end
end DL

set_option Elab.async false
set_option linter.all false
set_option maxRecDepth 100000
set_option maxHeartbeats 1000000
/-! DL8D: dicts written out, of one entry. -/
namespace DL
open PySem PySem.Spec PyProof.Rows L2
/-- {k: v} whose key is a row -/
theorem dl_dict_one {prog : Program} {w : World} {A : Around} {κ : Type} [DecidableEq κ] {knd : HeapKind prog w κ} {E : Value → Shared → Prop} {s : Shared} {env : Env} {k v : Expr} {pos : Pos} {Q : Value → Shared → Prop} (hu : knd.room A)
    (h : wpAny (model prog w) A (eval k env) (fun kx s1 => wpAny (model prog w) A (eval v env) (fun vx s2 => ∃ key a, kx = .ref a ∧ knd.is s2.heap key a ∧ s2.heap.DictOfH knd s.heap.objs.size [] ∧
      ∀ h' tk, h'.DictOfH knd s.heap.objs.size [(key, a, vx)] → Heap.SameBut s.heap.objs.size s2.heap h' → Q (.ref s.heap.objs.size) { s2 with heap := h', toks := tk }) E s1) E { s with heap := s.heap.push { cls := .type "dict", data := .dict #[] } }) :
    wpAny (model prog w) A (eval (.Dict [some k] [v] pos) env) Q E s := by
  have hsh := zip_pairTrees [some k] [v] env pos rfl rfl
  rw [arm_eval_Dict, hsh, dictDisplay_pairs (pairTrees [some k] [v] env pos) (by intro z; cases z) (show 1 < 17 by decide)]
  refine wpAny_bind (wpAny_standAt (wpAny_bind (wpAny_subDictH (knd := knd) (Q := fun d s' => wpAny (model prog w) A (pure (Value.ref d)) Q E s') hu (show 1 ≤ 15 by decide) ?_)))
  refine pairTrees_cons_walk (thn h fun kx s1 h1 => thn h1 fun vx s2 h2 => pairTrees_nil_walk ?_)
  obtain ⟨key, a, rfl, hk, hd, hq⟩ := h2
  exact ⟨[(key, a, vx)], ⟨rfl, rfl, hk, True.intro⟩, hd, fun h' tk hm hs => wpAny_pure (hq h' tk hm hs)⟩
section
variable {W : Wd} {nm : Nm} {G : Nat → Option Phi} {C : Nat → Option Int} {k : Nat} {X : Cx} {c : Ck}
theorem show_last {S : Store} {m : Mp} {H : Hp} (r : RelS W S m H) (a : Addr) (l : List Addr) : (m.show a l).ad[S.length]? = some a := app_last r a
theorem c_dn1 {a b : Expr} {pos : Pos} {fa fb : FE} (B : BX W nm G C k X c) (ha : PE X a (tD W fa)) (hb : PE X b (tD W fb)) :
    PE X (.Dict [some a] [b] pos) (tD W fun ρ S R => fa ρ S fun x S1 => fb ρ S1 fun y S2 => ∃ key, keyN x = some key ∧ R (.ref S2.length) (S2 ++ [.dctN false [(key, y)]])) := by
  refine ⟨fun pins s σ H Q I h => ?_⟩
  obtain ⟨ρ, S, m, R, rel, h, fin⟩ := h
  have hp : H s.heap.objs.size = none := I.hok.fresh (Nat.le_refl _)
  have hroom : (nestedKind X.prog X.w).room X.A := by show X.A.units + 8 < cLine; have := B.room.un; omega
  generalize hpe : s.heap.objs.size = p at hp
  have I1 : L2.Inv X pins σ (upd H p (NDic W.P W.w p [])) { s with heap := s.heap.push { cls := .type "dict", data := .dict #[] } } := by
    rw [← hpe]
    refine I.laid (a := s.heap.objs.size) (o := NDic W.P W.w s.heap.objs.size []) (t' := s.toks) (fun _ _ q => Heap.get?_push_of_some _ q) (Nat.le_refl _) ?_
    rw [B.prog, B.w]
    exact ndic_empty s.heap I.big
  have e1 := Ext.hide (m := m) hp (NDic W.P W.w p [])
  have r1 := rel.st.hide hp (Hidable.ndic W.P W.w p [])
  refine dl_dict_one hroom ?_
  rw [hpe]
  have hk : tD W fa σ (upd H p (NDic W.P W.w p [])) fun v H1 => tD W fb σ H1 fun u H2 => ∃ S2 m2 x y key, Ext (m.hide p) (upd H p (NDic W.P W.w p [])) m2 H2 ∧ RelS W S2 m2 H2 ∧ RepV W.K m2 H2 x v ∧ RepV W.K m2 H2 y u ∧ keyN x = some key ∧ R (.ref S2.length) (S2 ++ [.dctN false [(key, y)]]) :=
    ⟨ρ, S, m.hide p, _, rel.ext e1 r1, h, fun x S1 m1 H1 v hR e2 r2 qx => ⟨ρ, S1, m1, _, (rel.ext e1 r1).ext e2 r2, hR, fun y S2 m2 H2 u hR2 e3 r3 qy => ⟨S2, m2, x, y, hR2.choose, e2.tr r2 e3, r3, qx.ext e3, qy, hR2.choose_spec.1, hR2.choose_spec.2⟩⟩⟩
  refine thn (ha.run pins _ σ _ _ I1 hk) fun kx s1 ⟨v, H1, I2, rv, hk2⟩ => ?_
  refine thn (hb.run pins s1 σ H1 _ I2 hk2) fun vx s2 ⟨u, H2, I3, ru, S2, m2, x, y, key, e2, r2, qx, qy, hkey, hR⟩ => ?_
  obtain ⟨ba, rfl, hba⟩ := key_is B.K B.prog B.w I3 hkey qx
  obtain rfl : kx = Value.ref ba := rv
  have hpm : p ∈ m2.hid := e2.hid p List.mem_cons_self
  have hH2 : H2 p = some (NDic W.P W.w p []) := e2.keep p _ upd_same (fun z => (r2.hid p hpm).1 (by
    obtain ⟨t, ht⟩ := e2.pre
    rw [← ht]; exact List.mem_append_left _ z)) (Hidable.ndic W.P W.w p []).1
  obtain ⟨z, hs, ys, py, dd⟩ := ndic_at (m := m2) B.K B.prog B.w I3 (kvs := []) (.inl hH2) ⟨rfl, RepVs.nil, RepVs.nil, fun _ z => by cases z⟩
  have hy : ys = [] := by
    have := Paired.length py
    exact List.length_eq_zero_iff.mp (by rw [← this]; rfl)
  rw [hy] at dd
  refine ⟨key, ba, rfl, hba, dd, fun h' tk hm hsb => ?_⟩
  obtain ⟨_, hk1, hk8⟩ := keyN_of hkey
  have hkr : RepV W.K m2 H2 (unNK key) (.ref ba) := by rw [toNK_un _ _ hk1]; exact qx
  obtain ⟨o, es, ep, ho, hx, hd, he, his, hn⟩ := id hm
  have I4 : L2.Inv X pins σ (upd H2 p (NDic W.P W.w p [(key, ba, u)])) { s2 with heap := h', toks := tk } := by
    refine d_write I3 (by rw [hH2]; exact True.intro) hsb ⟨o, ho⟩ ?_
    refine ⟨⟨by show 1 ≤ sizeLine; decide, hs, [(key, ba, vx)], .cons ⟨rfl, rfl, ru⟩ .nil, o, es, ep, ho, hx, hd, by rw [B.prog, B.w] at he; exact he, by simp⟩, ⟨o, ho⟩, fun h1 h2 hh st => ?_⟩
    obtain ⟨z1, z2, ys', py', o', es', ep', ho', r'⟩ := hh
    exact ⟨z1, z2, ys', py', o', es', ep', st _ ho', r'⟩
  have hml : p ∉ m.hid := fun q => absurd (.inr q) (rel.st.fresh hp)
  have hsub : ∀ b ∈ m.hid, b ∈ m2.hid := fun b q => e2.hid b (List.mem_cons_of_mem _ q)
  have r5 : RelS W (S2 ++ [.dctN false [(key, y)]]) (m2.show p m.hid) (upd H2 p (NDic W.P W.w p [(key, ba, u)])) := by
    have e5 := Ext0.show r2 hpm hsub (NDic W.P W.w p [(key, ba, u)])
    exact r2.show hpm hsub hml ⟨[(key, ba, u)], upd_same, rfl, RepVs.cons (hkr.ext0 e5) RepVs.nil, RepVs.cons (qy.ext0 e5) RepVs.nil, fun kv hkv => by rw [List.mem_singleton.mp hkv]; exact hk8⟩
  have eT : Ext m H m2 H2 := e1.tr r1 e2
  exact ⟨.ref p, _, I4, rfl, fin _ _ _ _ _ hR (eT.show hp _) r5 ⟨p, show_last r2 p _, rfl⟩⟩
theorem c_dk1 {a b : Expr} {pos : Pos} {fa fb : FE} (B : BX W nm G C k X c) (ha : PE X a (tD W fa)) (hb : PE X b (tD W fb)) :
    PE X (.Dict [some a] [b] pos) (tD W fun ρ S R => fa ρ S fun x S1 => fb ρ S1 fun y S2 => ∃ key, keyOf x = some key ∧ R (.ref S2.length) (S2 ++ [.dct false [(key, y)]])) := by
  refine pe_imp (pe_disp (pps_cons ha hb pps_nil) rfl rfl (by intro z; cases z) (show 1 ≤ 15 by decide)) fun σ H Q h => ?_
  obtain ⟨ρ, S, m, R, rel, h, fin⟩ := h
  intro p hp
  have e1 := Ext.hide (m := m) hp (.dK [])
  have r1 := rel.st.hide hp (Hidable.dK p [])
  refine ⟨ρ, S, m.hide p, _, rel.ext e1 r1, h, fun x S1 m1 H1 v hR e2 r2 qx => ?_⟩
  refine ⟨ρ, S1, m1, _, (rel.ext e1 r1).ext e2 r2, hR, fun y S2 m2 H2 u hR2 e3 r3 qy => ?_⟩
  obtain ⟨key, hkey, hR2⟩ := hR2
  have qx2 := qx.ext e3
  obtain rfl := key_rep hkey qx2
  have e23 := e2.tr r2 e3
  have hpm : p ∈ m2.hid := e23.hid p List.mem_cons_self
  have hH2 : H2 p = some (.dK []) := e23.keep p _ upd_same (fun z => (r3.hid p hpm).1 (by
    obtain ⟨t, ht⟩ := e23.pre
    rw [← ht]; exact List.mem_append_left _ z)) (Hidable.dK p []).1
  refine ⟨hH2, [(key, u)], rfl, by show 1 ≤ 15; decide, ?_⟩
  have hml : p ∉ m.hid := fun q => absurd (.inr q) (rel.st.fresh hp)
  have hsub : ∀ b ∈ m.hid, b ∈ m2.hid := fun b q => e23.hid b (List.mem_cons_of_mem _ q)
  have em : mergeK [] [(key, u)] = [(key, u)] := rfl
  rw [em]
  have r5 : RelS W (S2 ++ [.dct false [(key, y)]]) (m2.show p m.hid) (upd H2 p (.dK [(key, u)])) := by
    have e5 := Ext0.show r3 hpm hsub (.dK [(key, u)])
    exact r3.show hpm hsub hml ⟨[(key, u)], upd_same, rfl, RepVs.cons (qy.ext0 e5) RepVs.nil⟩
  have eT : Ext m H m2 H2 := e1.tr r1 e23
  exact fin _ _ _ _ _ hR2 (eT.show hp _) r5 ⟨p, show_last r3 p _, rfl⟩
end
end DL

set_option Elab.async false
set_option linter.all false
set_option maxRecDepth 100000
set_option maxHeartbeats 1000000
/-! DL9: built-ins, locks, targets, what is walked, comprehensions. -/
namespace DL
open PySem PySem.Spec PyProof.Rows L2
section
variable {W : Wd} {nm : Nm} {G : Nat → Option Phi} {C : Nat → Option Int} {k : Nat} {X : Cx} {c : Ck}

/-! ### built-ins -/
theorem bi_mem (b : Bi) : b.name ∈ bltNames := by cases b <;> decide
theorem c_bi {b : Bi} {a : Expr} {es : List Expr} {p pos : Pos} {f : Rho → Store → (List D → Store → Prop) → Prop} (B : BX W nm G C k X c) (h1 : isGlob c.sc b.name = true) (hp : (a :: es).all plainX = true) (ha : PA X (a :: es) (tDs W f)) :
    PE X (.Call (.Name b.name p) (a :: es) [] pos) (tD W fun ρ S R => f ρ S fun ds S1 => biP S1 b ds fun d => R d S1) := by
  rw [List.all_cons, Bool.and_eq_true] at hp
  have hc := call_bi B.K B.prog B.w B.calm B.room b
  have hm := B.none (bi_mem b)
  have st := star_plain hp.1 es X.env
  have bk := back_plain pos X.env hp.2
  have imp : ∀ σ H (Q : VK), tD W (fun ρ S R => f ρ S fun ds S1 => biP S1 b ds fun d => R d S1) σ H Q → tCB (rVs W fun S ds R => biP S b ds R) (tDs W f) σ H Q := fun σ H Q h => by
    obtain ⟨ρ, S, m, R, rel, h, fin⟩ := h
    refine ⟨ρ, S, m, _, rel, h, fun ds S1 m1 H1 vs hR e1 r1 q1 => ?_⟩
    exact ⟨S1, m1, ds, fun d => R d S1, r1, q1, hR, fun d' hd v' H' e r q => fin d' S1 m1 H' v' hd (e1.tr r1 e) r q⟩
  refine pe_imp ?_ imp
  cases b with
  | len => exact pe_callB hc (B.gl h1) hm boot_len ha (by decide) (by decide) st bk
  | abs => exact pe_callB hc (B.gl h1) hm PyProof.Rows.boot_abs ha (by decide) (by decide) st bk
  | int => exact pe_callTy hc (B.gl h1) hm PyProof.Rows.boot_int ha (by decide) (by decide) st bk
  | tuple => exact pe_callTy hc (B.gl h1) hm PyProof.Rows.boot_tuple ha (by decide) (by decide) st bk
  | list => exact pe_callTy hc (B.gl h1) hm PyProof.Rows.boot_list ha (by decide) (by decide) st bk
  | sum => exact pe_callB hc (B.gl h1) hm PyProof.Rows.boot_sum ha (by decide) (by decide) st bk
  | all => exact pe_callB hc (B.gl h1) hm PyProof.Rows.boot_all ha (by decide) (by decide) st bk
  | any => exact pe_callB hc (B.gl h1) hm PyProof.Rows.boot_any ha (by decide) (by decide) st bk
  | max => exact pe_callB hc (B.gl h1) hm PyProof.Rows.boot_max ha (by decide) (by decide) st bk
  | min => exact pe_callB hc (B.gl h1) hm PyProof.Rows.boot_min ha (by decide) (by decide) st bk
  | max2 => exact pe_callB hc (B.gl h1) hm PyProof.Rows.boot_max ha (by decide) (by decide) st bk
  | min2 => exact pe_callB hc (B.gl h1) hm PyProof.Rows.boot_min ha (by decide) (by decide) st bk
  | sorted => exact pe_callB hc (B.gl h1) hm PyProof.Rows.boot_sorted ha (by decide) (by decide) st bk
  | sortd => exact pe_callB hc (B.gl h1) hm PyProof.Rows.boot_sorted ha (by decide) (by decide) st bk
  | listd => exact pe_callTy hc (B.gl h1) hm PyProof.Rows.boot_list ha (by decide) (by decide) st bk
theorem boot_ty (t : Ty) : bootBuiltins (Str.ofString t.name) = some (.type t.name) := by
  cases t
  · exact PyProof.Rows.boot_int
  · exact PyProof.Rows.boot_bool
  · exact PyProof.Rows.boot_str
  · exact PyProof.Rows.boot_tuple
  · exact PyProof.Rows.boot_list
theorem ty_mem (t : Ty) : Str.ofString t.name ∈ bltNames := by cases t <;> decide
theorem ty_ne (t : Ty) : Str.ofString t.name ≠ "__name__" ∧ (Str.ofString t.name == ("__debug__" : Str)) = false := by cases t <;> decide
theorem c_isi {t : Ty} {a : Expr} {p p2 pos : Pos} {fa : FE} (B : BX W nm G C k X c) (h1 : isGlob c.sc "isinstance" = true) (h2 : isGlob c.sc (Str.ofString t.name) = true) (hp : plainX a = true) (ha : PE X a (tD W fa)) :
    PE X (.Call (.Name "isinstance" p) [a, .Name (Str.ofString t.name) p2] [] pos) (tD W fun ρ S R => fa ρ S fun x S1 => isiP t x fun k => R (.bl k) S1) := by
  have hb : PE X (.Name (Str.ofString t.name) p2) (tC (.ty t.name)) := pe_bltn (B.gl h2) (B.none (ty_mem t)) (boot_ty t) rfl (ty_ne t).1 (ty_ne t).2
  refine pe_imp (pe_callB (call_isiP B.K B.prog B.w t) (B.gl h1) (B.none (by decide)) PyProof.Rows.boot_isinstance (pa_cons ha (pa_cons hb pa_nil) (star_plain hp _ _)) (by decide) (by decide) (star_plain hp _ _)) fun σ H Q h => ?_
  obtain ⟨ρ, S, m, R, rel, h, fin⟩ := h
  refine ⟨ρ, S, m, _, rel, h, fun x S1 m1 H1 v hR e1 r1 q1 => ?_⟩
  exact ⟨v, S1, m1, x, fun d => R d S1, rfl, r1, q1, hR, fun d' hd v' H' e r q => fin d' S1 m1 H' v' hd (e1.tr r1 e) r q⟩

/-! ### locks -/
/-- a dict of the store is locked, and unlocked behind -/
theorem lock_in {ρ : Rho} {S : Store} {m : Mp} {σ : L2.St} {H : Hp} {n : Nat} {o o' : Ob} (rel : Rel W ρ S m σ H) (hn : S[n]? = some o) (hl : lockOb o = some o') :
    ∃ a u, m.ad[n]? = some a ∧ H a = some u ∧ Mut (some u) ∧ (∀ od', u ≠ .frz od' u) ∧ ∀ od, Rel W ρ (S.set n o') m σ (upd H a (.frz od u)) ∧
      ∀ S1 m1 H1, S1[n]? = some o' → Ext m (upd H a (.frz od u)) m1 H1 → RelS W S1 m1 H1 → H1 a = some (.frz od u) ∧ Ext m H m1 (upd H1 a u) ∧ RelS W (S1.set n o) m1 (upd H1 a u) ∧ Ext0 m1 H1 m1 (upd H1 a u) := by
  obtain ⟨a, ha, hO⟩ := rel.st.at hn
  have fin : ∀ {u : HO}, H a = some u → Mut (some u) → (∀ od' u', u ≠ .frz od' u') → (∀ xs, u ≠ .tup xs) → (∀ ps, u ≠ .tbl ps) → (∀ od, RelO W m (upd H a (.frz od u)) a o') →
      (∀ od m1 H1, m1.ad[n]? = some a → H1 a = some (.frz od u) → RelO W m1 H1 a o' → RelO W m1 (upd H1 a u) a o ∨ ∀ S1, ¬ RelS W S1 m1 H1) →
      ∃ a u, m.ad[n]? = some a ∧ H a = some u ∧ Mut (some u) ∧ (∀ od', u ≠ .frz od' u) ∧ ∀ od, Rel W ρ (S.set n o') m σ (upd H a (.frz od u)) ∧
      ∀ S1 m1 H1, S1[n]? = some o' → Ext m (upd H a (.frz od u)) m1 H1 → RelS W S1 m1 H1 → H1 a = some (.frz od u) ∧ Ext m H m1 (upd H1 a u) ∧ RelS W (S1.set n o) m1 (upd H1 a u) ∧ Ext0 m1 H1 m1 (upd H1 a u) := fun {u} hu mu nf nt nb hr hb => by
    refine ⟨a, u, ha, hu, mu, fun od' z => nf _ _ z, fun od => ⟨⟨rel.len, fun i d hd => ?_, rel.st.put ha (hr od)⟩, fun S1 m1 H1 h1 e r => ?_⟩⟩
    · obtain ⟨v, h1, h2⟩ := rel.val i d hd
      exact ⟨v, h1, h2.ext0 (Ext0.put rel.st ha _)⟩
    · have hf : H1 a = some (.frz od u) := e.frz a od u upd_same
      have ha1 : m1.ad[n]? = some a := pre_get e.pre ha
      have ne : ∀ {b : Addr} {w : HO}, H b = some w → w ≠ u → b ≠ a := fun {b w} hb hw z => by
        rw [z, hu] at hb
        exact hw (Option.some.inj hb).symm
      refine ⟨hf, ⟨e.pre, e.hid, fun b hb => ?_, fun b w hw hb hn => ?_, fun b xs hb => ?_, fun b od' u' hb => ?_⟩, r.put ha1 ?_, Ext0.put r ha1 _⟩
      · rcases e.new b hb with q | q
        · exact .inl q
        · by_cases hba : b = a
          · rw [hba] at q; obtain ⟨ps, z⟩ := q _ upd_same; cases z
          · refine .inr fun o' ho' => q o' ?_
            rw [upd_ne hba]; exact ho'
      · have hba : b ≠ a := fun z => hb (by rw [z]; exact List.mem_of_getElem? ha)
        rw [upd_ne hba]
        exact e.keep b w (by rw [upd_ne hba]; exact hw) hb hn
      · have hba := ne hb (fun z => nt xs z.symm)
        rw [upd_ne hba]
        exact e.tup b xs (by rw [upd_ne hba]; exact hb)
      · have hba := ne hb (fun z => nf _ _ z.symm)
        rw [upd_ne hba]
        exact e.frz b od' u' (by rw [upd_ne hba]; exact hb)
      · rcases hb od m1 H1 ha1 hf (r.ob n o' a h1 ha1) with q | q
        · exact q
        · exact absurd r (q S1)
  cases o with
  | dct lk kvs =>
    cases lk with
    | true => cases hl
    | false =>
      cases hl
      obtain ⟨kws, h1, h2⟩ := hO
      refine fin (u := .dK kws) h1 True.intro (fun _ _ z => by cases z) (fun _ z => by cases z) (fun _ z => by cases z) (fun od => ⟨kws, ⟨od, upd_same⟩, h2.ext0 (Ext0.put rel.st ha _)⟩) fun od m1 H1 ha1 hf hO => ?_
      obtain ⟨kws', ⟨od', q1⟩, q2⟩ := hO
      rw [hf] at q1
      cases q1
      by_cases hz : ∃ S1, RelS W S1 m1 H1
      · obtain ⟨S1, r⟩ := hz
        exact .inl ⟨kws, upd_same, q2.ext0 (Ext0.put r ha1 _)⟩
      · exact .inr fun S1 r => hz ⟨S1, r⟩
  | dctN lk kvs =>
    cases lk with
    | true => cases hl
    | false =>
      cases hl
      obtain ⟨kws, h1, h2⟩ := hO
      refine fin (u := NDic W.P W.w a kws) h1 True.intro (fun _ _ z => by unfold NDic at z; cases z) (fun _ z => by unfold NDic at z; cases z) (fun _ z => by unfold NDic at z; cases z) (fun od => ⟨kws, ⟨od, upd_same⟩, h2.ext0 (Ext0.put rel.st ha _)⟩) fun od m1 H1 ha1 hf hO => ?_
      obtain ⟨kws', ⟨od', q1⟩, q2⟩ := hO
      rw [hf] at q1
      by_cases hz : ∃ S1, RelS W S1 m1 H1
      · obtain ⟨S1, r⟩ := hz
        have q3 := HO.frz.inj (Option.some.inj q1)
        exact .inl ⟨kws', by rw [q3.2]; exact upd_same, q2.ext0 (Ext0.put r ha1 _)⟩
      · exact .inr fun S1 r => hz ⟨S1, r⟩
  | lst ds => cases hl
  | ins cl fs => cases hl
theorem c_lock {x : Expr} {f : FE} (h : PE X x (tD W f)) : PE X x (tD W fun ρ S R => ∃ n o o', S[n]? = some o ∧ lockOb o = some o' ∧ f ρ (S.set n o') fun d S1 => S1[n]? = some o' ∧ R d (S1.set n o)) := by
  refine pe_imp (pe_lock h) fun σ H Q h => ?_
  obtain ⟨ρ, S, m, R, rel, ⟨n, o, o', hn, hl, h⟩, fin⟩ := h
  obtain ⟨a, u, ha, hu, mu, _, go⟩ := lock_in rel hn hl
  refine ⟨a, u, hu, mu, fun od => ?_⟩
  obtain ⟨rel2, back⟩ := go od
  refine ⟨ρ, _, m, _, rel2, h, fun d S1 m1 H1 v hR e1 r1 q1 => ?_⟩
  obtain ⟨hf, e2, r2, e0⟩ := back S1 m1 H1 hR.1 e1 r1
  exact ⟨hf, fin d _ m1 _ v hR.2 e2 r2 (q1.ext0 e0)⟩
theorem c_lrng {a : Expr} {p p2 pos pos2 : Pos} {fa : FE} (B : BX W nm G C k X c) (h1 : isGlob c.sc "list" = true) (h2 : isGlob c.sc "range" = true) (hp : plainX a = true) (ha : PE X a (tD W fa)) :
    PE X (.Call (.Name "list" p) [.Call (.Name "range" p2) [a] [] pos2] [] pos) (tD W fun ρ S R => fa ρ S fun d S1 => match d with | .int j => -(2 ^ 62) ≤ j ∧ j ≤ 16777216 ∧ R (.fl (rgD 0 j.toNat)) S1 | _ => False) := by
  refine pe_imp (pe_listRg B.calm (B.gl h1) (B.none (by decide)) (prg_1 (B.gl h2) (B.none (by decide)) ha (star_plain hp _ _)) (star_plain rfl _ _)) fun σ H Q h => ?_
  obtain ⟨ρ, S, m, R, rel, h, fin⟩ := h
  refine ⟨ρ, S, m, _, rel, h, fun x S1 m1 H1 v hR e1 r1 q1 => ?_⟩
  cases x with
  | int j =>
    obtain rfl : v = .int j := q1
    obtain ⟨b1, b2, hR⟩ := hR
    refine ⟨j, rfl, ⟨by omega, by omega, by omega, by omega, by omega⟩, fun q hq => ?_⟩
    have e2 := Ext.laid (m := m1) hq (.lst (rgV 0 j))
    have er : RepVs W.K m1 (upd H1 q (.lst (rgV 0 j))) (rgD 0 j.toNat) (rgV 0 j) := by
      generalize upd H1 q (.lst (rgV 0 j)) = HH
      unfold rgV rgD
      rw [show (j - 0).toNat = j.toNat by omega]
      generalize List.range j.toNat = l
      induction l with
      | nil => exact RepVs.nil
      | cons i l ih => exact RepVs.cons rfl ih
    exact fin _ S1 m1 _ _ hR (e1.tr r1 e2) (r1.laid hq _) ⟨q, _, rfl, r1.fresh hq, upd_same, er⟩
  | _ => cases hR
end
end DL

set_option Elab.async false
set_option linter.all false
set_option maxRecDepth 100000
set_option maxHeartbeats 1000000
/-! DL10: targets, what is walked, comprehensions. -/
namespace DL
open PySem PySem.Spec PyProof.Rows L2

/-! ### targets -/
theorem wipe_get (σ : L2.St) (i : Nat) : ∀ vs : List Nat, (L2.wipe σ vs)[i]? = if i ∈ vs ∧ i < σ.length then some none else σ[i]?
  | [] => by simp [L2.wipe]
  | v :: vs => by
    unfold L2.wipe
    have hl := wipe_length σ vs
    by_cases hi : v = i
    · subst hi
      by_cases hv : v < σ.length
      · rw [List.getElem?_set_self (by rw [hl]; exact hv), if_pos ⟨List.mem_cons_self, hv⟩]
      · rw [if_neg (fun z => hv z.2), List.getElem?_eq_none (by rw [List.length_set, hl]; omega), List.getElem?_eq_none (by omega)]
    · rw [List.getElem?_set_ne hi, wipe_get σ i vs]
      by_cases hm : i ∈ vs
      · simp [hm]
      · have h2 : i ∉ v :: vs := by simp [hm, Ne.symm hi]
        rw [if_neg (fun z => hm z.1), if_neg (fun z => h2 z.1)]
theorem wipe_set (σ : L2.St) (i : Nat) (x : Option V) {vs : List Nat} (h : i ∈ vs) : L2.wipe (σ.set i x) vs = L2.wipe σ vs := by
  refine List.ext_getElem? fun j => ?_
  rw [wipe_get, wipe_get, List.length_set]
  by_cases hj : j ∈ vs ∧ j < σ.length
  · rw [if_pos hj, if_pos hj]
  · rw [if_neg hj, if_neg hj]
    by_cases hij : i = j
    · subst hij
      have : ¬ i < σ.length := fun z => hj ⟨h, z⟩
      rw [List.getElem?_eq_none (by rw [List.length_set]; omega), List.getElem?_eq_none (by omega)]
    · rw [List.getElem?_set_ne hij]
theorem wipe_wipe (σ : L2.St) (vs : List Nat) : L2.wipe (L2.wipe σ vs) vs = L2.wipe σ vs := by
  refine List.ext_getElem? fun j => ?_
  rw [wipe_get, wipe_length]
  by_cases hj : j ∈ vs ∧ j < σ.length
  · rw [if_pos hj, wipe_get, if_pos hj]
  · rw [if_neg hj]

section
variable {W : Wd} {nm : Nm} {G : Nat → Option Phi} {C : Nat → Option Int} {k : Nat} {X : Cx} {c : Ck}
/-- a target's reading -/
def gD (W : Wd) (g : Tg) : TG := fun v σ H Q => ∃ ρ S m d R, Rel W ρ S m σ H ∧ RepV W.K m H d v ∧ asgP g d ρ R ∧
  ∀ ρ' σ', R ρ' → Rel W ρ' S m σ' H → (∀ vs : List Nat, (∀ i ∈ g.slots, i ∈ vs) → L2.wipe σ' vs = L2.wipe σ vs) → Q σ' H
def gDs (W : Wd) (g : Tg) : TGs := fun vs σ H Q => ∃ ρ S m ds R, Rel W ρ S m σ H ∧ RepVs W.K m H ds vs ∧ asgP g (.tup ds) ρ R ∧
  ∀ ρ' σ', R ρ' → Rel W ρ' S m σ' H → (∀ vs : List Nat, (∀ i ∈ g.slots, i ∈ vs) → L2.wipe σ' vs = L2.wipe σ vs) → Q σ' H
theorem pg_imp {e : Expr} {t t' : TG} (h : PG X e t) (hi : ∀ v σ H Q, t' v σ H Q → t v σ H Q) : PG X e t' := ⟨fun pins s σ H v u Q I r q => h.run pins s σ H v u Q I r (hi v σ H Q q)⟩
theorem pgs_imp {e : List Expr} {t t' : TGs} (h : PGs X e t) (hi : ∀ v σ H Q, t' v σ H Q → t v σ H Q) : PGs X e t' := ⟨fun pins s σ H v u Q I r q => h.run pins s σ H v u Q I r (hi v σ H Q q)⟩
theorem each_len : ∀ {es : List Expr} {env : Env}, es.all plainX = true → (assignEach es env).length = es.length ∧ (assignEach es env).findIdx? (·.1) = none
  | [], env, _ => ⟨rfl, rfl⟩
  | e :: es, env, h => by
    rw [List.all_cons, Bool.and_eq_true] at h
    obtain ⟨h1, h2⟩ := each_len (env := env) h.2
    rw [assign_plain h.1]
    exact ⟨by rw [List.length_cons, List.length_cons, h1], by rw [List.findIdx?_cons, h2]; rfl⟩
theorem chkGs_plain {c : Ck} : ∀ {g : Tg} {es : List Expr}, chkGs c g es = true → es.all plainX = true
  | .nil, [], _ => rfl
  | .cons g gs, e :: es, h => by
    unfold chkGs at h
    rw [Bool.and_eq_true, Bool.and_eq_true] at h
    rw [List.all_cons, h.1.1, chkGs_plain h.2]
    rfl
  | .n i, es, h => by unfold chkGs at h; cases h
  | .nil, _ :: _, h => by unfold chkGs at h; cases h
  | .cons _ _, [], h => by unfold chkGs at h; cases h
theorem asgP_ex : ∀ {g : Tg} {d : D} {ρ : Rho} {P : Rho → Prop}, asgP g d ρ P → ∃ ρ', P ρ'
  | .n i, d, ρ, P, h => ⟨_, h⟩
  | .nil, d, ρ, P, h => by
    cases d with
    | tup ds => cases ds with
      | nil => exact ⟨_, h⟩
      | cons d ds => cases h
    | _ => cases h
  | .cons g gs, d, ρ, P, h => by
    cases d with
    | tup ds => cases ds with
      | nil => cases h
      | cons d ds =>
        obtain ⟨ρ', h'⟩ := asgP_ex (g := g) (d := d) h
        exact asgP_ex (g := gs) h'
    | _ => cases h
theorem asg_len {c : Ck} : ∀ {g : Tg} {es : List Expr} {ds : List D} {ρ : Rho} {R : Rho → Prop}, chkGs c g es = true → asgP g (.tup ds) ρ R → ds.length = es.length
  | .nil, [], ds, ρ, R, _, h => by
    cases ds with
    | nil => rfl
    | cons d ds => cases h
  | .cons g gs, e :: es, ds, ρ, R, hc, h => by
    cases ds with
    | nil => cases h
    | cons d ds =>
      unfold chkGs at hc
      rw [Bool.and_eq_true] at hc
      obtain ⟨ρ', h'⟩ := asgP_ex (g := g) (d := d) h
      rw [List.length_cons, List.length_cons, asg_len (g := gs) hc.2 h']
  | .n i, es, ds, ρ, R, h, _ => by unfold chkGs at h; cases h
  | .nil, _ :: _, ds, ρ, R, h, _ => by unfold chkGs at h; cases h
  | .cons _ _, [], ds, ρ, R, h, _ => by unfold chkGs at h; cases h
mutual
theorem okG (B : BX W nm G C k X c) : ∀ (g : Tg) (x : Expr), chkG c g x = true → PG X x (gD W g)
  | .n i, x, h => by
    cases x with
    | Name y pos =>
      unfold chkG at h
      rw [Bool.and_eq_true] at h
      have hN : X.N[i]? = some y := by rw [B.N]; exact of_decide_eq_true h.1
      obtain ⟨hl, hf⟩ := B.st y h.2
      refine pg_imp (pg_name B.nd hN hl hf) fun v σ H Q q => ?_
      obtain ⟨ρ, S, m, d, R, rel, qv, h, fin⟩ := q
      exact fin _ _ h (rel.set qv i) fun vs hv => wipe_set σ i _ (hv i (by simp [Tg.slots]))
    | _ => unfold chkG at h; cases h
  | .nil, x, h => by unfold chkG at h; cases h
  | .cons g gs, x, h => by
    cases x with
    | Tuple es n pos =>
      have h2 : chkGs c (.cons g gs) es = true := by unfold chkG at h; exact h
      have hp := chkGs_plain h2
      obtain ⟨l1, l2⟩ := each_len (env := X.env) hp
      have ih := okGs B (.cons g gs) es h2
      refine pg_imp (pg_tup B.calm ih l1 l2) fun v σ H Q q => ?_
      obtain ⟨ρ, S, m, d, R, rel, qv, h, fin⟩ := q
      cases d with
      | tup ds =>
        obtain ⟨a, vs, rfl, ht, hr⟩ := qv
        exact ⟨a, vs, rfl, by rw [B.K]; exact ht.sq, by rw [hr.length]; exact asg_len h2 h, ρ, S, m, ds, R, rel, hr, h, fin⟩
      | _ => cases h
    | _ => unfold chkG at h; cases h
theorem okGs (B : BX W nm G C k X c) : ∀ (g : Tg) (xs : List Expr), chkGs c g xs = true → PGs X xs (gDs W g)
  | .n i, xs, h => by unfold chkGs at h; cases h
  | .nil, xs, h => by
    cases xs with
    | nil =>
      refine pgs_imp pgs_nil fun vs σ H Q q => ?_
      obtain ⟨ρ, S, m, ds, R, rel, qv, h, fin⟩ := q
      cases ds with
      | nil =>
        unfold RepVs at qv
        exact ⟨qv, fin _ _ h rel fun vs _ => rfl⟩
      | cons d ds => cases h
    | cons x xs => unfold chkGs at h; cases h
  | .cons g gs, xs, h => by
    cases xs with
    | nil => unfold chkGs at h; cases h
    | cons x xs =>
      unfold chkGs at h
      rw [Bool.and_eq_true, Bool.and_eq_true] at h
      have h1 := okG B g x h.1.2
      have h2 := okGs B gs xs h.2
      refine pgs_imp (pgs_cons h1 h2 (by rw [assign_plain h.1.1]; rfl)) fun vs σ H Q q => ?_
      obtain ⟨ρ, S, m, ds, R, rel, qv, h, fin⟩ := q
      cases ds with
      | nil => cases h
      | cons d ds =>
        unfold RepVs at qv
        obtain ⟨v, r, rfl, q1, q2⟩ := qv
        refine ⟨v, r, rfl, ρ, S, m, d, _, rel, q1, h, fun ρ1 σ1 hR1 rel1 w1 => ?_⟩
        refine ⟨ρ1, S, m, ds, R, rel1, q2, hR1, fun ρ2 σ2 hR2 rel2 w2 => fin ρ2 σ2 hR2 rel2 fun vs hv => ?_⟩
        unfold Tg.slots at hv
        rw [w2 vs fun i hi => hv i (List.mem_append_right _ hi), w1 vs fun i hi => hv i (List.mem_append_left _ hi)]
end

/-! ### what is walked -/
theorem it_list {tg : Expr} {pins : List (Addr × Obj)} {σ : L2.St} {H : Hp} {s : Shared} {R : L2.It → Hp → Prop} {a : Addr} {xs : List V} (I : L2.Inv X pins σ H s) (h : SqL X.K H a xs) (q : R (Itl X.K a) H) :
    wpAny (model X.prog X.w) X.A (pyIter (.ref a)) (PIE X pins σ tg R) X.xe s := by
  obtain ⟨its, rv, p, hz⟩ := I.list h
  refine wpAny_pyIter_list p.isList ?_
  refine ⟨s.heap.objs.size, [s.heap.objs.size], _, _, H, rfl, I.kept (t' := s.toks) fun b o e => Heap.get?_push_of_some _ e, turn_list a _, ⟨_, Heap.get?_push_size _ rfl, rfl, rfl⟩, fun b hb => ?_, q⟩
  have e : b = s.heap.objs.size := by simpa using hb
  subst e
  exact I.fpOk (Nat.le_refl _) (I.hok.fresh (Nat.le_refl _))
theorem it_tup {tg : Expr} {pins : List (Addr × Obj)} {σ : L2.St} {H : Hp} {s : Shared} {R : L2.It → Hp → Prop} {a : Addr} {xs : List V} (I : L2.Inv X pins σ H s) (h : SqT X.K H a xs) (q : R (Itt X.K a) H) :
    wpAny (model X.prog X.w) X.A (pyIter (.ref a)) (PIE X pins σ tg R) X.xe s := by
  obtain ⟨its, rv, p, hz⟩ := I.tuple h
  refine wpAny_pyIter_tuple (show s.heap.IsTuple a its.toArray from p) ?_
  refine ⟨s.heap.objs.size, [s.heap.objs.size], _, _, H, rfl, I.kept (t' := s.toks) fun b o e => Heap.get?_push_of_some _ e, turn_tuple a _, ⟨_, Heap.get?_push_size _ rfl, rfl, rfl⟩, fun b hb => ?_, q⟩
  have e : b = s.heap.objs.size := by simpa using hb
  subst e
  exact I.fpOk (Nat.le_refl _) (I.hok.fresh (Nat.le_refl _))
/-- a row that is a list stays what it is while the source stands -/
theorem seq_stays {S0 : Store} {m0 : Mp} {H0 : Hp} {d : D} {ds : List D} {v : V} (q : RepV W.K m0 H0 d v) (nt : ∀ xs, d ≠ .tup xs) {S : Store} {m : Mp} {H : Hp} (r : RelS W S m H) (e : Ext m0 H0 m H) (h : seqOf S d = some ds) {a : Addr} (hv : v = .ref a) :
    ∃ vs, SqL W.K H a vs ∧ RepVs W.K m H ds vs := by
  obtain ⟨vs, hq, hr⟩ := seq_rep r (q.ext e) h
  obtain ⟨b, hb, hq2⟩ := hq.lst nt
  rw [hv] at hb
  cases hb
  exact ⟨vs, hq2, hr⟩
theorem seq_addr {S : Store} {m : Mp} {H : Hp} {d : D} {ds : List D} {v : V} (r : RelS W S m H) (q : RepV W.K m H d v) (h : seqOf S d = some ds) : ∃ a, v = .ref a := by
  obtain ⟨vs, ⟨a, e, _⟩, _⟩ := seq_rep r q h
  exact ⟨a, e⟩
theorem i_val {tg x : Expr} {f : FE} (B : BX W nm G C k X c) (h : PE X x (tD W f)) : PI X tg x (tI W fun ρ S R => f ρ S fun d S1 => ∃ ds, walkOf S1 d = some ds ∧ R ds (fun S' => seqOf S1 d = some ds → seqOf S' d = some ds) S1) := by
  refine ⟨fun pins s σ H R I hh => ?_⟩
  obtain ⟨ρ, S, m, Rf, rel, hf, fin⟩ := hh
  have h1 : tD W f σ H fun v H1 => ∃ S1 m1 d, Ext m H m1 H1 ∧ RelS W S1 m1 H1 ∧ RepV W.K m1 H1 d v ∧ ∃ ds, walkOf S1 d = some ds ∧ Rf ds (fun S' => seqOf S1 d = some ds → seqOf S' d = some ds) S1 :=
    ⟨ρ, S, m, _, rel, hf, fun d S1 m1 H1 v hR e1 r1 q1 => ⟨S1, m1, d, e1, r1, q1, hR⟩⟩
  refine thn (h.run pins s σ H _ I h1) fun u s1 ⟨v, H1, I1, ru, S1, m1, d, e1, r1, q1, ds, hw, hR⟩ => ?_
  -- a list, or a tuple
  have seq : seqOf S1 d = some ds → wpAny (model X.prog X.w) X.A (pyIter u) (PIE X pins σ tg R) X.xe s1 := fun hs => by
    obtain ⟨vs, ⟨a, rfl, hq⟩, hr⟩ := seq_rep r1 q1 hs
    obtain rfl : u = Value.ref a := ru
    rcases hq with ⟨hq, nt⟩ | ⟨hq, xs, rfl⟩
    · refine it_list I1 (by rw [B.K]; exact hq) ?_
      rw [B.K]
      exact fin ds _ S1 m1 H1 _ hR e1 r1 (itd_list fun S' m' H' r' e' hS => seq_stays (S0 := S1) q1 nt r' e' (hS hs) rfl)
    · refine it_tup I1 (by rw [B.K]; exact hq.sq) ?_
      rw [B.K]
      exact fin ds _ S1 m1 H1 _ hR e1 r1 (itd_tup hq hr)
  cases d with
  | ref n =>
    dsimp only [walkOf] at hw
    split at hw
    · rename_i xs hn
      exact seq (by dsimp only [seqOf]; rw [hn]; exact hw)
    · rename_i kvs hn
      cases hw
      obtain ⟨a, kws, rfl, _, ⟨o, g1⟩, g2⟩ := keys_at r1 q1 hn
      obtain rfl : u = Value.ref a := ru
      obtain ⟨hs, hgd, hx, es, ep, vs, hdt, hsz, kv, hm⟩ := I1.frzK g1
      refine iter_keys hs hgd hx hdt (pi_one (tk := s1.toks) I1 _ (turn_keys _ hdt) ⟨_, Heap.get?_push_size _ rfl, rfl, by rw [hsz] <;> rfl⟩ (fin _ _ S1 m1 H1 _ hR e1 r1 (itd_keys g1 g2.1)))
    · rename_i kvs hn
      cases hw
      obtain ⟨a, xs, rfl, _, ⟨o, g1⟩, g2⟩ := nkeys_at r1 q1 hn
      obtain rfl : u = Value.ref a := ru
      obtain ⟨hs, hgd, hx, es, ep, hdt, hsz, ent⟩ := frzN I1 g1
      refine iter_keys hs hgd hx hdt (pi_one (tk := s1.toks) I1 _ (turn_keysN (P := W.P) (w := W.w) _ hdt) ⟨_, Heap.get?_push_size _ rfl, rfl, by rw [hsz] <;> rfl⟩ ?_)
      exact fin _ _ S1 m1 H1 _ hR e1 r1 (itd_keysN g1 g2)
    · cases hw
  | tup xs => exact seq hw
  | fl xs => exact seq hw
  | scr xs => exact seq hw
  | non => cases hw
  | bl b => cases hw
  | int b => cases hw
  | str b => cases hw
theorem i_rng1 {tg a : Expr} {p pos : Pos} {f : FE} (B : BX W nm G C k X c) (hg : isGlob c.sc "range" = true) (hp : plainX a = true) (h : PE X a (tD W f)) :
    PI X tg (.Call (.Name "range" p) [a] [] pos) (tI W fun ρ S R => f ρ S fun d S1 => match d with | .int j => -(2 ^ 62) ≤ j ∧ j < 2 ^ 62 ∧ R (rgD 0 j.toNat) (fun _ => True) S1 | _ => False) := by
  refine pi_imp (pi_range1 (B.gl hg) (B.none (by decide)) (pa_cons h pa_nil (star_plain hp _ _)) (star_plain hp _ _)) fun σ H R hh => ?_
  obtain ⟨ρ, S, m, Rf, rel, hf, fin⟩ := hh
  refine ⟨ρ, S, m, _, rel, hf, fun d S1 m1 H1 v hR e1 r1 q1 => ?_⟩
  cases d with
  | int j =>
    obtain rfl : v = .int j := q1
    exact ⟨j, rfl, hR.1, hR.2.1, fin _ _ S1 m1 H1 _ hR.2.2 e1 r1 (itd_range 0 j.toNat)⟩
  | _ => cases hR
theorem i_rng2 {tg a b : Expr} {p pos : Pos} {f g : FE} (B : BX W nm G C k X c) (hg : isGlob c.sc "range" = true) (hp : plainX a = true) (hp2 : plainX b = true) (h : PE X a (tD W f)) (h2 : PE X b (tD W g)) :
    PI X tg (.Call (.Name "range" p) [a, b] [] pos) (tI W fun ρ S R => f ρ S fun d S1 => g ρ S1 fun d' S2 => match d, d' with
    | .int i, .int j => (-(2 ^ 62) ≤ i ∧ i < 2 ^ 62 ∧ -(2 ^ 62) ≤ j ∧ j < 2 ^ 62) ∧ R (rgD i (j - i).toNat) (fun _ => True) S2
    | _, _ => False) := by
  refine pi_imp (pi_range2 (B.gl hg) (B.none (by decide)) (pa_cons h (pa_cons h2 pa_nil (star_plain hp2 _ _)) (star_plain hp _ _)) ((star_plain hp _ _).trans (congrArg _ (star_plain hp2 _ _))) (star_plain hp2 _ _)) fun σ H R hh => ?_
  obtain ⟨ρ, S, m, Rf, rel, hf, fin⟩ := hh
  refine ⟨ρ, S, m, _, rel, hf, fun d S1 m1 H1 v hR e1 r1 q1 => ?_⟩
  refine ⟨ρ, S1, m1, _, rel.ext e1 r1, hR, fun d' S2 m2 H2 v' hR2 e2 r2 q2 => ?_⟩
  split at hR2
  · rename_i i j
    obtain rfl : v = .int i := q1
    obtain rfl : v' = .int j := q2
    exact ⟨i, j, rfl, hR2.1, fin _ _ S2 m2 H2 _ hR2.2 (e1.tr r1 e2) r2 (itd_range i (j - i).toNat)⟩
  · cases hR2
theorem pi_enumT {e : Expr} {te : TE} {p pos tpos : Pos} {elts : List Expr} {kk : Nat} (hg : Gl X "enumerate") (hm : X.mg "enumerate" = none) (ha : PE X e te) (hs : starEach [e] X.env = [(false, eval e X.env)]) :
    PI X (.Tuple elts kk tpos) (.Call (.Name "enumerate" p) [e] [] pos) (fun σ H R => te σ H fun x H1 => ∃ a xs, [x] = [V.ref a] ∧ ((SqL X.K H1 a xs ∧ R (Ite X.K a) H1) ∨ (SqT X.K H1 a xs ∧ R (Itte X.K a) H1))) := by
  refine ⟨fun pins s σ H R I h => ?_⟩
  refine Call_ (ld_blt I hg hm boot_enumerate (PyProof.Rows.callWith_type1 (thn ((pa_cons ha pa_nil hs).run pos pins s σ H (fun vs H1 => ∃ a xs, vs = [V.ref a] ∧ ((SqL X.K H1 a xs ∧ R (Ite X.K a) H1) ∨ (SqT X.K H1 a xs ∧ R (Itte X.K a) H1))) I h) fun us s1 ⟨vs, H1, I1, r1, a, xs, ex, q1⟩ => ?_) hs rfl))
  · subst ex
    cases r1 with
    | cons r rr =>
      cases rr
      cases r
      rcases q1 with ⟨hq, q⟩ | ⟨hq, q⟩
      · obtain ⟨its, rv, p', hz⟩ := I1.list hq
        refine call_enumerate_list p'.isList fun h' he hit hsz hk => wpAny_pyIter_enum he ?_
        have I2 : L2.Inv X pins σ H1 { s1 with heap := h' } := I1.kept (t' := s1.toks) hk
        refine ⟨s1.heap.objs.size + 1, [s1.heap.objs.size + 1, s1.heap.objs.size], _, _, H1, rfl, I2, turn_enum a (s1.heap.objs.size + 1) s1.heap.objs.size, ⟨⟨.none, he⟩, hit, Nat.succ_ne_self _⟩, fun b hb => ?_, q⟩
        have e' : b = s1.heap.objs.size + 1 ∨ b = s1.heap.objs.size := by simpa using hb
        have hle : s1.heap.objs.size ≤ b := by
          rcases e' with z | z
          · rw [z]; exact Nat.le_add_right _ _
          · rw [z]; exact Nat.le_refl _
        exact I1.fpOk hle (I1.hok.fresh hle)
      · obtain ⟨its, rv, p', hz⟩ := I1.tuple hq
        have pt : s1.heap.IsTuple a its.toArray := p'
        refine dl_call_enumerate (begins_tuple a its.toArray) pt fun h' he hit hsz hk => wpAny_pyIter_enum he ?_
        have I2 : L2.Inv X pins σ H1 { s1 with heap := h' } := I1.kept (t' := s1.toks) hk
        refine ⟨s1.heap.objs.size + 1, [s1.heap.objs.size + 1, s1.heap.objs.size], _, _, H1, rfl, I2, turn_enumT a (s1.heap.objs.size + 1) s1.heap.objs.size, ⟨⟨.none, he⟩, ⟨_, hit, rfl, rfl⟩, Nat.succ_ne_self _⟩, fun b hb => ?_, q⟩
        have e' : b = s1.heap.objs.size + 1 ∨ b = s1.heap.objs.size := by simpa using hb
        have hle : s1.heap.objs.size ≤ b := by
          rcases e' with z | z
          · rw [z]; exact Nat.le_add_right _ _
          · rw [z]; exact Nat.le_refl _
        exact I1.fpOk hle (I1.hok.fresh hle)
theorem i_enum {e : Expr} {p pos tpos : Pos} {elts : List Expr} {kk : Nat} {f : FE} (B : BX W nm G C k X c) (hg : isGlob c.sc "enumerate" = true) (hp : plainX e = true) (h : PE X e (tD W f)) :
    PI X (.Tuple elts kk tpos) (.Call (.Name "enumerate" p) [e] [] pos) (tI W fun ρ S R => f ρ S fun d S1 => ∃ ds, seqOf S1 d = some ds ∧ R (enumD 0 ds) (fun S' => seqOf S' d = some ds) S1) := by
  refine pi_imp (pi_enumT (B.gl hg) (B.none (by decide)) h (star_plain hp _ _)) fun σ H R hh => ?_
  obtain ⟨ρ, S, m, Rf, rel, hf, fin⟩ := hh
  refine ⟨ρ, S, m, _, rel, hf, fun d S1 m1 H1 v hR e1 r1 q1 => ?_⟩
  obtain ⟨ds, hs, hR⟩ := hR
  obtain ⟨vs, ⟨a, rfl, hq⟩, hr⟩ := seq_rep r1 q1 hs
  rcases hq with ⟨hq, nt⟩ | ⟨hq, xs, rfl⟩
  · refine ⟨a, vs, rfl, .inl ⟨by rw [B.K]; exact hq, ?_⟩⟩
    rw [B.K]
    exact fin _ _ S1 m1 H1 _ hR e1 r1 (itd_enum fun S' m' H' r' e' hS => seq_stays (S0 := S1) q1 nt r' e' hS rfl)
  · refine ⟨a, vs, rfl, .inr ⟨by rw [B.K]; exact hq.sq, ?_⟩⟩
    rw [B.K]
    exact fin _ _ S1 m1 H1 _ hR e1 r1 (itd_enumT hq hr)
theorem i_zip {a b : Expr} {p pos tpos : Pos} {elts : List Expr} {kk : Nat} {f g : FE} (B : BX W nm G C k X c) (hg : isGlob c.sc "zip" = true) (hp : plainX a = true) (hp2 : plainX b = true) (h : PE X a (tD W f)) (h2 : PE X b (tD W g)) :
    PI X (.Tuple elts kk tpos) (.Call (.Name "zip" p) [a, b] [] pos) (tI W fun ρ S R => f ρ S fun d S1 => g ρ S1 fun d' S2 => ∃ ds es, (∀ xs, d ≠ .tup xs) ∧ (∀ xs, d' ≠ .tup xs) ∧ seqOf S2 d = some ds ∧ seqOf S2 d' = some es ∧ R (zipD ds es) (fun S' => seqOf S' d = some ds ∧ seqOf S' d' = some es) S2) := by
  refine pi_imp (pi_zip (B.gl hg) (B.none (by decide)) (pa_cons h (pa_cons h2 pa_nil (star_plain hp2 _ _)) (star_plain hp _ _)) (star_plain hp _ _) (back_plain pos _ (by rw [List.all_cons, hp2]; rfl))) fun σ H R hh => ?_
  obtain ⟨ρ, S, m, Rf, rel, hf, fin⟩ := hh
  refine ⟨ρ, S, m, _, rel, hf, fun d S1 m1 H1 v hR e1 r1 q1 => ?_⟩
  refine ⟨ρ, S1, m1, _, rel.ext e1 r1, hR, fun d' S2 m2 H2 v' hR2 e2 r2 q2 => ?_⟩
  obtain ⟨ds, es, nt, nt', hs, hs', hR2⟩ := hR2
  have q1' := q1.ext e2
  obtain ⟨vs, hq, hr⟩ := seq_rep r2 q1' hs
  obtain ⟨a1, rfl, hqL⟩ := hq.lst nt
  obtain ⟨ws, hq', hr'⟩ := seq_rep r2 q2 hs'
  obtain ⟨a2, rfl, hqL'⟩ := hq'.lst nt'
  refine ⟨a1, a2, vs, ws, rfl, by rw [B.K]; exact hqL, by rw [B.K]; exact hqL', ?_⟩
  rw [B.K]
  exact fin _ _ S2 m2 H2 _ hR2 (e1.tr r1 e2) r2 (itd_zip (fun S' m' H' r' e' hS => seq_stays (S0 := S2) q1' nt r' e' hS.1 rfl) fun S' m' H' r' e' hS => seq_stays (S0 := S2) q2 nt' r' e' hS.2 rfl)

/-! ### comprehensions -/
def tTb (W : Wd) (f : Rho → Store → (Bool → Store → Prop) → Prop) : TT := fun σ H Q => ∃ ρ S m R, Rel W ρ S m σ H ∧ f ρ S R ∧ ∀ k S' m' H', R k S' → Ext m H m' H' → RelS W S' m' H' → Q k H'
theorem pts_imp {X : Cx} {e : List Expr} {t t' : TT} (h : PTs X e t) (hi : ∀ σ H Q, t' σ H Q → t σ H Q) : PTs X e t' := ⟨fun pins s σ H Q I q => h.run pins s σ H Q I (hi σ H Q q)⟩
theorem t_no : PTs X [] (tTb W fun ρ S R => R true S) := by
  refine pts_imp pts_nil fun σ H Q h => ?_
  obtain ⟨ρ, S, m, R, rel, h, fin⟩ := h
  exact fin true S m H h Ext.refl rel.st
theorem t_yes {x : Expr} {f : FE} (h : PT X x (tT W f)) : PTs X [x] (tTb W fun ρ S R => f ρ S fun d S1 => boolP d fun k => R k S1) := by
  refine pts_imp (pts_one h) fun σ H Q h => ?_
  obtain ⟨ρ, S, m, R, rel, h, fin⟩ := h
  refine ⟨ρ, S, m, _, rel, h, fun d S1 m1 H1 hR e1 r1 => ?_⟩
  obtain ⟨k, rfl, hk⟩ := boolP_inv hR
  exact ⟨k, rfl, fin k S1 m1 H1 hk e1 r1⟩
/-- a list that came after m1 is changed -/
theorem Ext.after {m1 m : Mp} {H1 H : Hp} {a : Addr} (e : Ext m1 H1 m H) (h : H1 a = none) (u : HO) : Ext m1 H1 m (upd H a u) where
  pre := e.pre
  hid := e.hid
  new := e.new
  keep := fun b o q hb hn => by rw [upd_ne (ne_of_none q h)]; exact e.keep b o q hb hn
  tup := fun b xs q => by rw [upd_ne (ne_of_none q h)]; exact e.tup b xs q
  frz := fun b od x q => by rw [upd_ne (ne_of_none q h)]; exact e.frz b od x q
theorem Ext.only {m1 m : Mp} {H1 H : Hp} (e : Ext m1 H1 m H) : Ext m1 H1 (m.only m1.hid) H where
  pre := e.pre
  hid := fun b h => h
  new := fun b h => e.new b (h.imp id (e.hid b))
  keep := e.keep
  tup := e.tup
  frz := e.frz
theorem lc_imp {g : Tg} {own : List Nat} {fi : FI} {ft : Rho → Store → (Bool → Store → Prop) → Prop} {fe : FE} (hs : ∀ i ∈ g.slots, i ∈ own) {σ : L2.St} {H : Hp} {Q : VK}
    (h : tD W (fun ρ S R => fi ρ S fun ds Src S1 =>
      mapP (fun d S2 K => asgP g d (wipeD ρ own) fun ρ' => ft ρ' S2 fun k S3 => if k = true then fe ρ' S3 fun x S4 => K (some x) S4 else K none S3) Src (fun acc S5 => R (.fl acc) S5) ds [] S1) σ H Q) :
    tLc (tI W fi) (gD W g) (tTb W ft) (tD W fe) own σ H Q := by
  obtain ⟨ρ, S, m, R, rel, h, fin⟩ := h
  refine ⟨ρ, S, m, _, rel, h, fun ds Src S1 m1 H1 J hM e1 r1 itd => fun Da hD => ?_⟩
  refine ⟨fun i μ Hc => ∃ acc Sc mc vs, μ = ds.length - i ∧ i ≤ ds.length ∧ Da ∈ mc.hid ∧ RelS W Sc mc Hc ∧ Ext m1 H1 mc Hc ∧ Hc Da = some (.lst vs) ∧ RepVs W.K mc Hc acc vs ∧
    mapP (fun d S2 K => asgP g d (wipeD ρ own) fun ρ' => ft ρ' S2 fun k S3 => if k = true then fe ρ' S3 fun x S4 => K (some x) S4 else K none S3) Src (fun acc S5 => R (.fl acc) S5) (ds.drop i) acc Sc,
    ⟨ds.length, [], S1, m1.hide Da, [], by simp, Nat.zero_le _, List.mem_cons_self, r1.hide hD (.lst Da []), Ext.hide hD _, upd_same, RepVs.nil, by rw [List.drop_zero]; exact hM⟩, ?_⟩
  rintro i μ Hc ⟨acc, Sc, mc, vs, rfl, hi, hDm, rc, ec, hDc, hacc, hmap⟩
  have eo := ec.only
  have hsub : ∀ b ∈ m1.hid, b ∈ mc.hid := ec.hid
  have ro := rc.only hsub
  by_cases hlt : i < ds.length
  · have hd : ds[i]? = some ds[i] := List.getElem?_eq_getElem hlt
    rw [List.drop_eq_getElem_cons hlt] at hmap
    obtain ⟨hS, hsz, hturn⟩ := hmap
    refine .inr ⟨itd.go i Sc mc Hc rc ec hS hlt, fun Hn => ∃ acc Sc mc vs, i + 1 ≤ ds.length ∧ Da ∈ mc.hid ∧ RelS W Sc mc Hn ∧ Ext m1 H1 mc Hn ∧ Hn Da = some (.lst vs) ∧ RepVs W.K mc Hn acc vs ∧
      mapP (fun d S2 K => asgP g d (wipeD ρ own) fun ρ' => ft ρ' S2 fun k S3 => if k = true then fe ρ' S3 fun x S4 => K (some x) S4 else K none S3) Src (fun acc S5 => R (.fl acc) S5) (ds.drop (i + 1)) acc Sc, fun Hn hN => ?_, fun x Hy hy => ?_⟩
    · obtain ⟨acc', Sc', mc', vs', z⟩ := hN
      exact ⟨ds.length - (i + 1), by omega, acc', Sc', mc', vs', rfl, z⟩
    · obtain ⟨d, hd2, qx, ey, ry⟩ := itd.yld i Sc mc Hc x Hy rc ec hS hlt hy
      rw [hd] at hd2
      obtain rfl := Option.some.inj hd2
      have ecy := ec.tr rc ey
      have relw : Rel W (wipeD ρ own) Sc mc (L2.wipe σ own) Hy := (rel.ext (e1.tr r1 ecy) ry).wipe own
      have hDad : Da ∉ mc.ad := (ry.hid Da hDm).1
      have hDy : Hy Da = some (.lst vs) := ey.keep Da _ hDc hDad (fun _ z => by cases z)
      refine ⟨_, Sc, mc, _, _, relw, qx, hturn, fun ρ' σ' hR' rel' hw => ⟨by rw [hw own hs, wipe_wipe], ?_⟩⟩
      refine ⟨ρ', Sc, mc, _, rel', hR', fun kk S3 m3 H3 hk e3 r3 => ?_⟩
      have hD3m : Da ∈ m3.hid := e3.hid Da hDm
      have hD3 : H3 Da = some (.lst vs) := e3.keep Da _ hDy hDad (fun _ z => by cases z)
      have hacc3 : RepVs W.K m3 H3 acc vs := (hacc.ext ey).ext e3
      have ec3 := ecy.tr ry e3
      cases kk with
      | false =>
        simp only [Bool.false_eq_true, if_false] at hk ⊢
        exact ⟨acc, S3, m3, vs, by omega, hD3m, r3, ec3, hD3, hacc3, hk⟩
      | true =>
        simp only [if_true] at hk ⊢
        refine ⟨ρ', S3, m3, _, rel'.ext e3 r3, hk, fun y S4 m4 H4 v hR4 e4 r4 q4 => ?_⟩
        have hD4m : Da ∈ m4.hid := e4.hid Da hD3m
        have hD4 : H4 Da = some (.lst vs) := e4.keep Da _ hD3 (r3.hid Da hD3m).1 (fun _ z => by cases z)
        refine ⟨vs, hD4, by rw [hacc.length]; exact hsz, acc ++ [y], S4, m4, vs ++ [v], by omega, hD4m, r4.grow hD4m (.lst Da _), (ec3.tr r3 e4).after hD _, upd_same, ?_, hR4⟩
        exact ((hacc3.ext e4).append (RepVs.cons q4 RepVs.nil)).ext0 (Ext0.putM r4 (.inr hD4m) _)
  · have hi2 : i = ds.length := by omega
    subst hi2
    rw [List.drop_length] at hmap
    obtain ⟨hS, hR⟩ := hmap
    refine .inl ⟨itd.stop _ Sc mc Hc rc ec hS (Nat.le_refl _), ?_⟩
    refine fin (.fl acc) Sc (mc.only m1.hid) Hc (.ref Da) hR (e1.tr r1 eo) ro ⟨Da, vs, rfl, fun z => ?_, hDc, hacc.ext0 (Ext0.only hsub)⟩
    rcases z with z | z
    · exact (rc.hid Da hDm).1 z
    · exact r1.fresh hD (.inr z)
end
end DL

set_option Elab.async false
set_option linter.all false
set_option maxRecDepth 100000
set_option maxHeartbeats 1000000
/-! DL11: what the checker's yes tells of the text. -/
namespace DL
open PySem PySem.Spec PyProof.Rows L2
section
variable {nm : Nm} {c : Ck}
theorem inv_v {i : Nat} {x : Expr} (h : chkE nm c (.v i) x = true) : ∃ y pos, x = .Name y pos ∧ (decide (c.N[i]? = some y) && visB c.sc y && okName y) = true := by
  cases x with
  | Name y pos => exact ⟨y, pos, rfl, h⟩
  | _ => have h : false = true := h; cases h
theorem inv_gl {i : Nat} {x : Expr} (h : chkE nm c (.gl i) x = true) : ∃ y pos, x = .Name y pos ∧ (isGlob c.sc y && decide (nm.k i = some y) && okName y) = true := by
  cases x with
  | Name y pos => exact ⟨y, pos, rfl, h⟩
  | _ => have h : false = true := h; cases h
theorem inv_non  {x : Expr} (h : chkE nm c .non x = true) : ∃ kk pos, x = .Constant (.none) kk pos ∧ (true) = true := by
  cases x with
  | Constant v kk pos =>
    cases v with
    | none => exact ⟨kk, pos, rfl, rfl⟩
    | _ => have h : false = true := h; cases h
  | _ => have h : false = true := h; cases h
theorem inv_bl {b : Bool} {x : Expr} (h : chkE nm c (.bl b) x = true) : ∃ b1 kk pos, x = .Constant (.bool b1) kk pos ∧ (decide (b = b1)) = true := by
  cases x with
  | Constant v kk pos =>
    cases v with
    | bool b1 => exact ⟨b1, kk, pos, rfl, h⟩
    | _ => have h : false = true := h; cases h
  | _ => have h : false = true := h; cases h
theorem inv_int {b : Int} {x : Expr} (h : chkE nm c (.int b) x = true) : ∃ b1 kk pos, x = .Constant (.int b1) kk pos ∧ (decide (b = b1)) = true := by
  cases x with
  | Constant v kk pos =>
    cases v with
    | int b1 => exact ⟨b1, kk, pos, rfl, h⟩
    | _ => have h : false = true := h; cases h
  | _ => have h : false = true := h; cases h
theorem inv_str {b : Str} {x : Expr} (h : chkE nm c (.str b) x = true) : ∃ b1 kk pos, x = .Constant (.str b1) kk pos ∧ (decide (b = b1)) = true := by
  cases x with
  | Constant v kk pos =>
    cases v with
    | str b1 => exact ⟨b1, kk, pos, rfl, h⟩
    | _ => have h : false = true := h; cases h
  | _ => have h : false = true := h; cases h
theorem inv_bin {o : Operator} {a b : E} {x : Expr} (h : chkE nm c (.bin o a b) x = true) : ∃ a1 o1 b1 pos, x = .BinOp a1 o1 b1 pos ∧ (decide (o = o1) && chkE nm c a a1 && chkE nm c b b1) = true := by
  cases x with
  | BinOp a1 o1 b1 pos => exact ⟨a1, o1, b1, pos, rfl, h⟩
  | _ => have h : false = true := h; cases h
theorem inv_neg {a : E} {x : Expr} (h : chkE nm c (.neg a) x = true) : ∃ a1 pos, x = .UnaryOp .USub a1 pos ∧ (chkE nm c a a1) = true := by
  cases x with
  | UnaryOp op a1 pos =>
    cases op with
    | USub => exact ⟨a1, pos, rfl, h⟩
    | _ => have h : false = true := h; cases h
  | _ => have h : false = true := h; cases h
theorem inv_not {a : E} {x : Expr} (h : chkE nm c (.not a) x = true) : ∃ a1 pos, x = .UnaryOp .Not a1 pos ∧ (chkE nm c a a1) = true := by
  cases x with
  | UnaryOp op a1 pos =>
    cases op with
    | Not => exact ⟨a1, pos, rfl, h⟩
    | _ => have h : false = true := h; cases h
  | _ => have h : false = true := h; cases h
theorem inv_cmp {o : CmpOp} {a b : E} {x : Expr} (h : chkE nm c (.cmp o a b) x = true) : ∃ a1 o1 b1 pos, x = .Compare a1 [o1] [b1] pos ∧ (decide (o = o1) && plainX b1 && chkE nm c a a1 && chkE nm c b b1) = true := by
  cases x with
  | Compare a1 os bs pos =>
    match os, bs, h with
    | [o1], [b1], h => exact ⟨a1, o1, b1, pos, rfl, h⟩
    | [], _, h => have h : false = true := h; cases h
    | [_], [], h => have h : false = true := h; cases h
    | [_], _ :: _ :: _, h => have h : false = true := h; cases h
    | _ :: _ :: _, _, h => have h : false = true := h; cases h
  | _ => have h : false = true := h; cases h
theorem inv_chain {o o' : CmpOp} {a b d : E} {x : Expr} (h : chkE nm c (.chain o o' a b d) x = true) : ∃ a1 p p' b1 d1 pos, x = .Compare a1 [p, p'] [b1, d1] pos ∧ (decide (o = p) && decide (o' = p') && plainX b1 && plainX d1 && chkE nm c a a1 && chkE nm c b b1 && chkE nm c d d1) = true := by
  cases x with
  | Compare a1 os bs pos =>
    match os, bs, h with
    | [p, p'], [b1, d1], h => exact ⟨a1, p, p', b1, d1, pos, rfl, h⟩
    | [], _, h => have h : false = true := h; cases h
    | [_], _, h => have h : false = true := h; cases h
    | _ :: _ :: _ :: _, _, h => have h : false = true := h; cases h
    | [_, _], [], h => have h : false = true := h; cases h
    | [_, _], [_], h => have h : false = true := h; cases h
    | [_, _], _ :: _ :: _ :: _, h => have h : false = true := h; cases h
  | _ => have h : false = true := h; cases h
theorem inv_and {a r : E} {x : Expr} (h : chkE nm c (.and a r) x = true) : ∃ a1 b1 rest pos, x = .BoolOp .And (a1 :: b1 :: rest) pos ∧ (chkE nm c a a1 && chkE nm c r (.BoolOp .And (b1 :: rest) pos)) = true := by
  cases x with
  | BoolOp o vs pos =>
    cases o with
    | And =>
      match vs, h with
      | a1 :: b1 :: rest, h => exact ⟨a1, b1, rest, pos, rfl, h⟩
      | [], h => have h : false = true := h; cases h
      | [_], h => have h : false = true := h; cases h
    | _ => have h : false = true := h; cases h
  | _ => have h : false = true := h; cases h
theorem inv_or {a r : E} {x : Expr} (h : chkE nm c (.or a r) x = true) : ∃ a1 b1 rest pos, x = .BoolOp .Or (a1 :: b1 :: rest) pos ∧ (chkE nm c a a1 && chkE nm c r (.BoolOp .Or (b1 :: rest) pos)) = true := by
  cases x with
  | BoolOp o vs pos =>
    cases o with
    | Or =>
      match vs, h with
      | a1 :: b1 :: rest, h => exact ⟨a1, b1, rest, pos, rfl, h⟩
      | [], h => have h : false = true := h; cases h
      | [_], h => have h : false = true := h; cases h
    | _ => have h : false = true := h; cases h
  | _ => have h : false = true := h; cases h
theorem inv_one {a : E} {x : Expr} (h : chkE nm c (.one a) x = true) : ∃ o a1 pos, x = .BoolOp o [a1] pos ∧ (chkE nm c a a1) = true := by
  cases x with
  | BoolOp o vs pos =>
    match vs, h with
    | [a1], h => exact ⟨o, a1, pos, rfl, h⟩
    | [], h => have h : false = true := h; cases h
    | _ :: _ :: _, h => have h : false = true := h; cases h
  | _ => have h : false = true := h; cases h
theorem inv_ite {t a b : E} {x : Expr} (h : chkE nm c (.ite t a b) x = true) : ∃ t1 a1 b1 pos, x = .IfExp t1 a1 b1 pos ∧ (chkE nm c t t1 && chkE nm c a a1 && chkE nm c b b1) = true := by
  cases x with
  | IfExp t1 a1 b1 pos => exact ⟨t1, a1, b1, pos, rfl, h⟩
  | _ => have h : false = true := h; cases h
theorem inv_tup {es : Es} {x : Expr} (h : chkE nm c (.tup es) x = true) : ∃ xs kk pos, x = .Tuple xs kk pos ∧ (chkEs nm c es xs) = true := by
  cases x with
  | Tuple xs kk pos => exact ⟨xs, kk, pos, rfl, h⟩
  | _ => have h : false = true := h; cases h
theorem inv_lst {es : Es} {x : Expr} (h : chkE nm c (.lst es) x = true) : ∃ xs pos, x = .List xs pos ∧ (chkEs nm c es xs) = true := by
  cases x with
  | List xs pos => exact ⟨xs, pos, rfl, h⟩
  | _ => have h : false = true := h; cases h
theorem inv_newl {es : Es} {x : Expr} (h : chkE nm c (.newl es) x = true) : ∃ xs pos, x = .List xs pos ∧ (chkEs nm c es xs) = true := by
  cases x with
  | List xs pos => exact ⟨xs, pos, rfl, h⟩
  | _ => have h : false = true := h; cases h
theorem inv_newd {x : Expr} (h : chkE nm c .newd x = true) : ∃ pos, x = .Dict [] [] pos := by
  cases x with
  | Dict ks vs pos =>
    match ks, vs, h with
    | [], [], h => exact ⟨pos, rfl⟩
    | [], _ :: _, h => have h : false = true := h; cases h
    | _ :: _, _, h => have h : false = true := h; cases h
  | _ => have h : false = true := h; cases h
theorem inv_newn {x : Expr} (h : chkE nm c .newn x = true) : ∃ pos, x = .Dict [] [] pos := by
  cases x with
  | Dict ks vs pos =>
    match ks, vs, h with
    | [], [], h => exact ⟨pos, rfl⟩
    | [], _ :: _, h => have h : false = true := h; cases h
    | _ :: _, _, h => have h : false = true := h; cases h
  | _ => have h : false = true := h; cases h
theorem inv_dk1 {a b : E} {x : Expr} (h : chkE nm c (.dk1 a b) x = true) : ∃ a1 b1 pos, x = .Dict [some a1] [b1] pos ∧ (chkE nm c a a1 && chkE nm c b b1) = true := by
  cases x with
  | Dict ks vs pos =>
    match ks, vs, h with
    | [some a1], [b1], h => exact ⟨a1, b1, pos, rfl, h⟩
    | [], _, h => have h : false = true := h; cases h
    | [none], _, h => have h : false = true := h; cases h
    | [some _], [], h => have h : false = true := h; cases h
    | [some _], _ :: _ :: _, h => have h : false = true := h; cases h
    | none :: _ :: _, _, h => have h : false = true := h; cases h
    | some _ :: _ :: _, _, h => have h : false = true := h; cases h
  | _ => have h : false = true := h; cases h
theorem inv_dn1 {a b : E} {x : Expr} (h : chkE nm c (.dn1 a b) x = true) : ∃ a1 b1 pos, x = .Dict [some a1] [b1] pos ∧ (chkE nm c a a1 && chkE nm c b b1) = true := by
  cases x with
  | Dict ks vs pos =>
    match ks, vs, h with
    | [some a1], [b1], h => exact ⟨a1, b1, pos, rfl, h⟩
    | [], _, h => have h : false = true := h; cases h
    | [none], _, h => have h : false = true := h; cases h
    | [some _], [], h => have h : false = true := h; cases h
    | [some _], _ :: _ :: _, h => have h : false = true := h; cases h
    | none :: _ :: _, _, h => have h : false = true := h; cases h
    | some _ :: _ :: _, _, h => have h : false = true := h; cases h
  | _ => have h : false = true := h; cases h
theorem inv_ix {a i : E} {x : Expr} (h : chkE nm c (.ix a i) x = true) : ∃ a1 i1 pos, x = .Subscript a1 i1 pos ∧ (plainX i1 && chkE nm c a a1 && chkE nm c i i1) = true := by
  cases x with
  | Subscript a1 i1 pos => exact ⟨a1, i1, pos, rfl, h⟩
  | _ => have h : false = true := h; cases h
theorem inv_sl {a : E} {lo hi : Oe} {x : Expr} (h : chkE nm c (.sl a lo hi) x = true) : ∃ a1 lo1 hi1 p2 pos, x = .Subscript a1 (.Slice lo1 hi1 none p2) pos ∧ (chkE nm c a a1 && chkO nm c lo lo1 && chkO nm c hi hi1) = true := by
  cases x with
  | Subscript a1 s pos =>
    cases s with
    | Slice lo1 hi1 st p2 =>
      cases st with
      | none => exact ⟨a1, lo1, hi1, p2, pos, rfl, h⟩
      | some _ => have h : false = true := h; cases h
    | _ => have h : false = true := h; cases h
  | _ => have h : false = true := h; cases h
theorem inv_call {j : Nat} {es : Es} {x : Expr} (h : chkE nm c (.call j es) x = true) : ∃ y p xs pos, x = .Call (.Name y p) xs [] pos ∧ (isGlob c.sc y && decide (nm.g j = some y) && okName y && chkEs nm c es xs) = true := by
  cases x with
  | Call f xs kws pos =>
    cases f with
    | Name y p =>
      cases kws with
      | nil => exact ⟨y, p, xs, pos, rfl, h⟩
      | cons _ _ => have h : false = true := h; cases h
    | _ => have h : false = true := h; cases h
  | _ => have h : false = true := h; cases h
theorem inv_make {cl j : Nat} {es : Es} {x : Expr} (h : chkE nm c (.make cl j es) x = true) : ∃ y p xs pos, x = .Call (.Name y p) xs [] pos ∧ (isGlob c.sc y && decide (nm.c cl = some y) && decide (nm.i cl = j) && okName y && chkEs nm c es xs) = true := by
  cases x with
  | Call f xs kws pos =>
    cases f with
    | Name y p =>
      cases kws with
      | nil => exact ⟨y, p, xs, pos, rfl, h⟩
      | cons _ _ => have h : false = true := h; cases h
    | _ => have h : false = true := h; cases h
  | _ => have h : false = true := h; cases h
theorem inv_bi {b : Bi} {es : Es} {x : Expr} (h : chkE nm c (.bi b es) x = true) : ∃ y p a1 xs pos, x = .Call (.Name y p) (a1 :: xs) [] pos ∧ (isGlob c.sc y && decide (b.name = y) && chkEs nm c es (a1 :: xs)) = true := by
  cases x with
  | Call f xs kws pos =>
    cases f with
    | Name y p =>
      cases kws with
      | nil => 
        match xs, h with
        | a1 :: xs, h => exact ⟨y, p, a1, xs, pos, rfl, h⟩
        | [], h => have h : false = true := h; cases h
      | cons _ _ => cases xs with
        | nil => have h : false = true := h; cases h
        | cons _ _ => have h : false = true := h; cases h
    | _ => have h : false = true := h; cases h
  | _ => have h : false = true := h; cases h
theorem inv_isi {a : E} {t : Ty} {x : Expr} (h : chkE nm c (.isi a t) x = true) : ∃ y p a1 z p2 pos, x = .Call (.Name y p) [a1, .Name z p2] [] pos ∧ (isGlob c.sc y && decide (y = ("isinstance" : Str)) && isGlob c.sc z && decide (z = Str.ofString t.name) && plainX a1 && chkE nm c a a1) = true := by
  cases x with
  | Call f xs kws pos =>
    cases f with
    | Name y p =>
      match xs, h with
      | [], h => have h : false = true := h; cases h
      | [_], h => have h : false = true := h; cases h
      | [a1, z], h =>
        cases z with
        | Name z p2 =>
          cases kws with
          | nil => exact ⟨y, p, a1, z, p2, pos, rfl, h⟩
          | cons _ _ => have h : false = true := h; cases h
        | _ => have h : false = true := h; cases h
      | [_, z, _], h => cases z <;> (have h : false = true := h; cases h)
      | _ :: z :: _ :: _ :: _, h => cases z <;> (have h : false = true := h; cases h)
    | _ => have h : false = true := h; cases h
  | _ => have h : false = true := h; cases h
theorem inv_fld {cl : Nat} {a : E} {g : Str} {x : Expr} (h : chkE nm c (.fld cl a g) x = true) : ∃ a1 g1 pos, x = .Attribute a1 g1 pos ∧ (decide (g1 = g) && notCall0 a1 && decide (g ∈ nm.f cl) && chkE nm c a a1) = true := by
  cases x with
  | Attribute a1 g1 pos => exact ⟨a1, g1, pos, rfl, h⟩
  | _ => have h : false = true := h; cases h
theorem inv_meth {cl j : Nat} {m : Str} {a : E} {es : Es} {x : Expr} (h : chkE nm c (.meth cl j m a es) x = true) : ∃ a1 y apos xs pos, x = .Call (.Attribute a1 y apos) xs [] pos ∧ (decide (y = m) && decide (nm.m cl j = some m) && notCall0 a1 && (apos.endLine == pos.line) && decide (xs.length < 30) && chkE nm c a a1 && chkEs nm c es xs) = true := by
  cases x with
  | Call f xs kws pos =>
    cases f with
    | Attribute a1 y apos =>
      cases kws with
      | nil => exact ⟨a1, y, apos, xs, pos, rfl, h⟩
      | cons _ _ => have h : false = true := h; cases h
    | _ => have h : false = true := h; cases h
  | _ => have h : false = true := h; cases h
theorem inv_lc {g : Tg} {it : It} {t : Oe} {elt : E} {own : List Nat} {x : Expr} (h : chkE nm c (.lc g it t elt own) x = true) : ∃ elt1 tg iter ifs as scope pos, x = .ListComp elt1 [⟨tg, iter, ifs, as⟩] scope pos ∧
    (decide (as = 0) && plainX iter && plainX tg && tupG it tg && blkC c.N c.sc scope (ownOf c.N scope) && decide ((ownOf c.N scope).map (·.2) = own) && (g.slots.all fun i => own.contains i) &&
      chkI nm c it iter && chkG (c.blk scope) g tg && chkT nm (c.blk scope) t ifs && chkE nm (c.blk scope) elt elt1) = true := by
  cases x with
  | ListComp elt1 gs scope pos =>
    match gs, h with
    | [⟨tg, iter, ifs, as⟩], h => exact ⟨elt1, tg, iter, ifs, as, scope, pos, rfl, h⟩
    | [], h => have h : false = true := h; cases h
    | ⟨_, _, _, _⟩ :: _ :: _, h => have h : false = true := h; cases h
  | _ => have h : false = true := h; cases h
theorem inv_rng1 {a : E} {x : Expr} (h : chkI nm c (.rng1 a) x = true) : ∃ y p a1 pos, x = .Call (.Name y p) [a1] [] pos ∧ (isGlob c.sc y && decide (y = ("range" : Str)) && plainX a1 && chkE nm c a a1) = true := by
  cases x with
  | Call f xs kws pos =>
    cases f with
    | Name y p =>
      match xs, h with
      | [], h => have h : false = true := h; cases h
      | [a1], h =>
        cases kws with
        | nil => exact ⟨y, p, a1, pos, rfl, h⟩
        | cons _ _ => have h : false = true := h; cases h
      | _ :: _ :: _, h => have h : false = true := h; cases h
    | _ => have h : false = true := h; cases h
  | _ => have h : false = true := h; cases h
theorem inv_enum {a : E} {x : Expr} (h : chkI nm c (.enum a) x = true) : ∃ y p a1 pos, x = .Call (.Name y p) [a1] [] pos ∧ (isGlob c.sc y && decide (y = ("enumerate" : Str)) && plainX a1 && chkE nm c a a1) = true := by
  cases x with
  | Call f xs kws pos =>
    cases f with
    | Name y p =>
      match xs, h with
      | [], h => have h : false = true := h; cases h
      | [a1], h =>
        cases kws with
        | nil => exact ⟨y, p, a1, pos, rfl, h⟩
        | cons _ _ => have h : false = true := h; cases h
      | _ :: _ :: _, h => have h : false = true := h; cases h
    | _ => have h : false = true := h; cases h
  | _ => have h : false = true := h; cases h
theorem inv_rng2 {a b : E} {x : Expr} (h : chkI nm c (.rng2 a b) x = true) : ∃ y p a1 b1 pos, x = .Call (.Name y p) [a1, b1] [] pos ∧ (isGlob c.sc y && decide (y = ("range" : Str)) && plainX a1 && plainX b1 && chkE nm c a a1 && chkE nm c b b1) = true := by
  cases x with
  | Call f xs kws pos =>
    cases f with
    | Name y p =>
      match xs, h with
      | [], h => have h : false = true := h; cases h
      | [_], h => have h : false = true := h; cases h
      | [a1, b1], h =>
        cases kws with
        | nil => exact ⟨y, p, a1, b1, pos, rfl, h⟩
        | cons _ _ => have h : false = true := h; cases h
      | _ :: _ :: _ :: _, h => have h : false = true := h; cases h
    | _ => have h : false = true := h; cases h
  | _ => have h : false = true := h; cases h
theorem inv_zip {a b : E} {x : Expr} (h : chkI nm c (.zip a b) x = true) : ∃ y p a1 b1 pos, x = .Call (.Name y p) [a1, b1] [] pos ∧ (isGlob c.sc y && decide (y = ("zip" : Str)) && plainX a1 && plainX b1 && chkE nm c a a1 && chkE nm c b b1) = true := by
  cases x with
  | Call f xs kws pos =>
    cases f with
    | Name y p =>
      match xs, h with
      | [], h => have h : false = true := h; cases h
      | [_], h => have h : false = true := h; cases h
      | [a1, b1], h =>
        cases kws with
        | nil => exact ⟨y, p, a1, b1, pos, rfl, h⟩
        | cons _ _ => have h : false = true := h; cases h
      | _ :: _ :: _ :: _, h => have h : false = true := h; cases h
    | _ => have h : false = true := h; cases h
  | _ => have h : false = true := h; cases h
theorem inv_lrng {a : E} {x : Expr} (h : chkE nm c (.lrng a) x = true) : ∃ y p z p2 a1 pos2 pos, x = .Call (.Name y p) [.Call (.Name z p2) [a1] [] pos2] [] pos ∧ (isGlob c.sc y && decide (y = ("list" : Str)) && isGlob c.sc z && decide (z = ("range" : Str)) && plainX a1 && chkE nm c a a1) = true := by
  cases x with
  | Call f xs kws pos =>
    cases f with
    | Name y p =>
      match xs, h with
      | [], h => have h : false = true := h; cases h
      | [l], h =>
        cases l with
        | Call g ys kw2 pos2 =>
          cases g with
          | Name z p2 =>
            match ys, h with
            | [], h => have h : false = true := h; cases h
            | [a1], h =>
              cases kw2 with
              | cons _ _ => have h : false = true := h; cases h
              | nil =>
                cases kws with
                | cons _ _ => have h : false = true := h; cases h
                | nil => exact ⟨y, p, z, p2, a1, pos2, pos, rfl, h⟩
            | _ :: _ :: _, h => have h : false = true := h; cases h
          | _ => have h : false = true := h; cases h
        | _ => have h : false = true := h; cases h
      | l :: _ :: _, h =>
        cases l <;> first | (have h : false = true := h; cases h; done) | skip
        rename_i g ys kw2 pos2
        cases g <;> first | (have h : false = true := h; cases h; done) | skip
        match ys, h with
        | [], h => have h : false = true := h; cases h
        | [a1], h => cases kw2 <;> (have h : false = true := h; cases h)
        | _ :: _ :: _, h => have h : false = true := h; cases h
    | _ => have h : false = true := h; cases h
  | _ => have h : false = true := h; cases h
theorem inv_told {j : Nat} {e : E} {x : Expr} (h : chkE nm c (.told j e) x = true) : ∃ y p body scope lp pos, x = .Call (.Name y p) [.Lambda ⟨[], [], none, [], [], none, []⟩ body scope lp] [] pos ∧
    (c.tl && isGlob c.sc y && decide (nm.told = some y) && decide (nm.rd = j) && okName y && LamX.lamSB c.sc scope && chkE nm { N := c.N, sc := scope, st := fun _ => false } e body) = true := by
  cases x with
  | Call f xs kws pos =>
    cases f with
    | Name y p =>
      match xs, h with
      | [], h => have h : false = true := h; cases h
      | [l], h =>
        cases l with
        | Lambda args body scope lp =>
          obtain ⟨po, ar, va, ko, kd, kw, df⟩ := args
          cases po <;> first | (have h : false = true := h; cases h; done) | skip
          cases ar <;> first | (have h : false = true := h; cases h; done) | skip
          cases va <;> first | (have h : false = true := h; cases h; done) | skip
          cases ko <;> first | (have h : false = true := h; cases h; done) | skip
          cases kd <;> first | (have h : false = true := h; cases h; done) | skip
          cases kw <;> first | (have h : false = true := h; cases h; done) | skip
          cases df <;> first | (have h : false = true := h; cases h; done) | skip
          cases kws <;> first | (have h : false = true := h; cases h; done) | skip
          exact ⟨y, p, body, scope, lp, pos, rfl, h⟩
        | _ => have h : false = true := h; cases h
      | l :: _ :: _, h =>
        cases l <;> first | (have h : false = true := h; cases h; done) | skip
        rename_i args body scope lp
        obtain ⟨po, ar, va, ko, kd, kw, df⟩ := args
        cases po <;> first | (have h : false = true := h; cases h; done) | skip
        cases ar <;> first | (have h : false = true := h; cases h; done) | skip
        cases va <;> first | (have h : false = true := h; cases h; done) | skip
        cases ko <;> first | (have h : false = true := h; cases h; done) | skip
        cases kd <;> first | (have h : false = true := h; cases h; done) | skip
        cases kw <;> first | (have h : false = true := h; cases h; done) | skip
        cases df <;> first | (have h : false = true := h; cases h; done) | skip
    | _ => have h : false = true := h; cases h
  | _ => have h : false = true := h; cases h
end
end DL

set_option Elab.async false
set_option linter.all false
set_option maxRecDepth 100000
set_option maxHeartbeats 1000000
/-! DL11B: a call with a lambda, told. -/
namespace DL
open PySem PySem.Spec PyProof.Rows L2
section
variable {W : Wd} {nm : Nm} {G : Nat → Option Phi} {C : Nat → Option Int} {k : Nat} {X : Cx} {c : Ck}
/-- all but the tables stays -/
theorem ext_N {S : Store} {m : Mp} {H H1 : Hp} (r : RelS W S m H) (e : LamX.ExtN H H1) (t : LamX.Tabs W.T H1) : Ext m H m H1 ∧ RelS W S m H1 := by
  have ex : Ext m H m H1 := ⟨List.prefix_refl m.ad, fun _ h => h, fun _ h => .inl h, fun b o h _ n => e b o h n, fun b xs h => e b _ h (fun _ z => by cases z), fun b o u h => e b _ h (fun _ z => by cases z)⟩
  refine ⟨ex, r.len, r.nd, fun b hb => ?_, fun n o a h1 h2 => ?_, t⟩
  · obtain ⟨h1, u, h2, h3⟩ := r.hid b hb
    exact ⟨h1, u, e b _ h2 h3.1, h3⟩
  · have q := r.ob n o a h1 h2
    obtain ⟨u, hu, hn, _⟩ := q.mut
    exact q.ext ex (by rw [hu, e a u hu hn])
/-- told, by what the reader is worth -/
def TTd (W : Wd) (φ : Phi) : (XK → Hp → VK → Prop) → Hp → VK → Prop := fun tl H Q => tl L2.E0 H fun v H1 => spD W φ ([v] ++ []) H1 (fun v2 H2 => ([V.int 0, v2] : List V).length ≤ sizeLine ∧ ∀ p, H2 p = none → Q (.ref p) (upd H2 p (.tup [V.int 0, v2]))) L2.E0
theorem told_givesD {k2 : Nat} {x a rd q : Str} {st : Stmt} {g : Addr} {cdg : Value} {Ng : List Str} {φ : Phi} (hK : X.K = W.K) (hP : X.prog = W.P) (hw : X.w = W.w) (T : Lk W nm G C k2 X.mg X.base) (hr : Room (k2 + 3) X.A) (Sg : FnScope Ng [a] (L2.defScope st)) (hN : Ng[0]? = some a) (hb : toldBody rd a (L2.defBody st))
    (hg : nm.g nm.rd = some rd) (hG : G nm.rd = some φ) (hgl : isGlob (L2.defScope st) rd = true) (ho : okName rd = true) : LamX.GivesTo X Ng x (L2.defScope st) g cdg (L2.defBody st) a q (TTd W φ) := by
  intro f c' s H Q tl act hco h
  obtain ⟨p1, p2, p3, p4, p5, p6, p7, p8, k1, k2', hh, hs, hb⟩ := hb
  rw [hb]
  obtain ⟨fa, F, hm, hkp⟩ := T.fns nm.rd φ rd hg hG
  obtain ⟨fd, ps, F, bd⟩ := F
  rw [← hK, ← hP, ← hw] at F
  rw [← hK] at bd hkp
  have hrA : Room (k2 + 2) (X.A.deeper (envOfC x (L2.defScope st) s.heap.objs.size g cdg)) := hr.deeper _
  have hact := act (fun _ _ _ _ => False) [] (fun _ _ => False) L2.E0 p3 p4 LamX.takes0 (fun _ _ _ _ z => z)
  have hgl' : Gl (cxOf C8.CX0 X.prog X.w X.K X.mg X.base Ng x (L2.defScope st) g cdg X.A X.stack s H C8.E0).nox rd := of_decide_eq_true (p := (L2.defScope st).names.lookup rd = some .globalImplicit) hgl
  have hact : PE (cxOf C8.CX0 X.prog X.w X.K X.mg X.base Ng x (L2.defScope st) g cdg X.A X.stack s H C8.E0).nox (.Call (.Name a p3) [] [] p4) (fun σZ HZ Q => σZ[0]? = some (some (.ref f)) ∧ HZ c' = some (LamX.CodeO c' q) ∧ tl L2.E0 HZ Q) := hact
  have hc := pe_call (X := (cxOf C8.CX0 X.prog X.w X.K X.mg X.base Ng x (L2.defScope st) g cdg X.A X.stack s H C8.E0).nox) (E := L2.E0) (p := p2) (pos := p5) F (hrA.mono (Nat.le_add_right k2 2)) hgl' hm hkp bd .nil L2.pass0 (pa_cons hact pa_nil) (okName_1 ho)
  refine ⟨_, pss_one (ps_try_thru0 (pss_one (ps_ret (pe_tup (pa_cons pe_int (pa_cons hc pa_nil)))))), ?_⟩
  refine ⟨?_, hco, h⟩
  unfold L2.start
  rfl
theorem c_told {j : Nat} {e : E} {y : Str} {body : Expr} {scope : Scope} {p lp pos : Pos} (B : BX W nm G C k X c) (h0 : c.tl = true) (h1 : isGlob c.sc y = true) (h2 : nm.told = some y) (h3 : nm.rd = j) (h4 : okName y = true) (h5 : LamX.lamSB c.sc scope = true)
    (hbody : ∀ (X' : Cx) (k2 : Nat), BX W nm G C k2 X' { N := c.N, sc := scope, st := fun _ => false } → PE X' body (tD W (evE G C e))) :
    PE X (.Call (.Name y p) [.Lambda ⟨[], [], none, [], [], none, []⟩ body scope lp] [] pos) (tD W fun ρ S R => match G j with | some φ => evE G C e ρ S fun d S1 => φ [d] S1 fun d' S2 => R (.tup [.int 0, d']) S2 | none => False) := by
  subst h3
  cases hG : G nm.rd with
  | none => exact ⟨fun pins s σ H Q I h => let ⟨_, _, _, _, _, z, _⟩ := h; z.elim⟩
  | some φ =>
    obtain ⟨k2, x, a, rd, st, g, ca, P, fd, Ng, hk, ht, T2, F, hm, bd, Sg, hN, hb, hrd, hgl, ho, hoa, TB, hcode, hmT, hu⟩ := B.tl h0
    obtain rfl : x = y := Option.some.inj (ht.symm.trans h2)
    have hr : Room (k2 + 3) X.A := B.room.mono (by omega)
    obtain ⟨oc, od, kV, doc, pm, an, cdv, ct, osl, rfl, lk, hcd⟩ := F.ex
    have hkp := F.kp
    rw [← B.K] at lk hcd hkp bd
    rw [← B.sc] at h5
    have L := LamX.lamS_by h5
    have hva : Vis (L2.defScope st) a := (Sg.par a (by simp)).imp id .inl
    have hG2 := told_givesD (x := x) (q := X.env.qual ++ "<lambda>") (g := g) (cdg := cdv) B.K B.prog B.w T2 hr Sg hN hb hrd hG hgl ho
    have q := LamX.pe_lamcall (X := X) (T := W.T) (TT := TTd W φ) (k := k2 + 1) (t := fun _ => tD W (evE G C e)) (p := p) (lpos := lp) (pos := pos) (body := body) (scope := scope) (params := ⟨[], [], none, [], [], none, []⟩)
      (B.gl h1) hm hkp lk hcd bd Sg hN hva hG2 TB hcode hmT hu hr L rfl (fun _ _ _ _ _ => rfl) (fun A outer s H E f c' hr2 => ?_) (okName_1 h4) (okName_1 hoa) (okName_2 hoa)
    · refine pe_imp q fun σ H Q h => ?_
      obtain ⟨ρ, S, m, R, rel, h, fin⟩ := h
      refine ⟨rel.st.tabs, fun H1 eN T1 => ?_⟩
      obtain ⟨e1, r1⟩ := ext_N rel.st eN T1
      refine ⟨ρ, S, m, _, rel.ext e1 r1, h, fun d S1 m1 H2 v hR e2 r2 qv => ?_⟩
      refine ⟨S1, m1, [d], _, r2, RepVs.cons qv RepVs.nil, hR, fun d' S3 m3 H3 v3 hR3 e3 r3 q3 => ⟨by show 2 ≤ sizeLine; decide, fun p hp => ?_⟩⟩
      have e4 := Ext.laid (m := m3) hp (.tup [V.int 0, v3])
      exact fin _ S3 m3 _ _ hR3 (e1.tr r1 (e2.tr r2 (e3.tr r3 e4))) (r3.laid hp _) ⟨p, _, rfl, .inl upd_same, RepVs.cons (show RepV W.K m3 _ (.int 0) (.int 0) from rfl) (RepVs.cons (q3.ext e4) RepVs.nil)⟩
    · refine PE.nox (hbody _ k2 ?_)
      exact { K := B.K, prog := B.prog, w := B.w, calm := rfl, nd := B.nd, N := B.N, sc := rfl, kind := L.kind, st := (fun _ z => nomatch z), room := hr2, po := PassesOwn.never, T := T2, tl := (fun z => nomatch z), lm := (fun z => nomatch z) }
end
end DL

set_option Elab.async false
set_option linter.all false
set_option maxRecDepth 100000
set_option maxHeartbeats 1000000
/-! DL11C: sorted by a key that is a lambda; sets of numbers; get, setdefault. -/
namespace DL
open PySem PySem.Spec PyProof.Rows L2
theorem and2 {a b : Bool} (h : (a && b) = true) : a = true ∧ b = true := by rw [Bool.and_eq_true] at h; exact h
theorem seqNone : seqItems? Value.none = pure Option.none := rfl
theorem bind1 {z : Str} {zp : Pos} {qual : Str} {body : Expr} {scope : Scope} {cl : List (Str × Addr)} {pm cv ctv u : Value} : bindArgs (PySem.W.kla_fn "<lambda>" qual (lamArgs z zp) body scope cl pm cv ctv) ⟨[u], []⟩ = pure [(z, u)] := by
  unfold bindArgs
  have hz : (z == z) = true := beq_self_eq_true z
  simp only [PySem.W.kla_fn, lamArgs, List.map_cons, List.map_nil, List.nil_append, List.append_nil, List.zip_cons_cons, List.zip_nil_left, List.lookup_cons, hz, List.forIn_nil, pure_bind, seqNone, Option.getD_none, List.length_cons, List.length_nil, List.drop_nil, Nat.sub_zero, Nat.zero_add, Array.toList_empty, List.take_succ_cons, List.take_zero, List.filter_cons, List.filter_nil, Option.isNone_some, Bool.false_eq_true, if_false, List.isEmpty_nil, Bool.not_true, List.drop_succ_cons, List.zip_nil_right]
  rw [if_neg (by decide)]
  simp only [List.filterMap_cons, List.filterMap_nil, hz, Option.map_some]
section
variable {W : Wd} {nm : Nm} {G : Nat → Option Phi} {C : Nat → Option Int} {k : Nat} {X : Cx} {c : Ck}
theorem clo_sub {X : Cx} {scope : Scope} (hfree : ∀ y ∈ scope.names, y.2 = .free → ∃ c, X.env.cells.lookup y.1 = some c) {y : Str} {a : Addr} (e : (cloFrom X.env.cells scope.names []).lookup y = some a) : X.env.cells.lookup y = some a := by
  rcases cloFrom_mem (PySem.mem_of_lookup e) with hm | ⟨h1, h2⟩
  · cases hm
  · obtain ⟨c1, hc⟩ := hfree _ h1 rfl
    have hc : X.env.cells.lookup y = some c1 := hc
    have e2 : a = c1 := by rw [h2, hc]; rfl
    rw [e2]; exact hc
theorem frOf_mem {scope : Scope} {y : Str} : y ∈ frOf scope ↔ (y, NameKind.free) ∈ scope.names := by
  unfold frOf
  rw [List.mem_filterMap]
  constructor
  · rintro ⟨⟨z, kd⟩, h1, h2⟩
    by_cases h : kd = .free
    · rw [if_pos h] at h2
      cases h2
      subst h
      exact h1
    · rw [if_neg h] at h2; cases h2
  · intro h
    exact ⟨(y, .free), h, by rw [if_pos rfl]⟩
theorem caps_len : ∀ {js : List Nat} {ys : List Str}, capsB c js ys = true → js.length = ys.length
  | [], [], _ => rfl
  | [], _ :: _, h => by unfold capsB at h; cases h
  | _ :: _, [], h => by unfold capsB at h; cases h
  | j :: js, y :: ys, h => by
    unfold capsB at h
    rw [Bool.and_eq_true] at h
    rw [List.length_cons, List.length_cons, caps_len h.2]
theorem caps_at : ∀ {js : List Nat} {ys : List Str} {i : Nat} {y : Str}, capsB c js ys = true → ys[i]? = some y → ∃ j, js[i]? = some j ∧ c.N[j]? = some y ∧ (c.sc.names.lookup y = some .cell ∨ c.sc.names.lookup y = some .free)
  | [], [], _, _, _, e => by simp at e
  | [], _ :: _, _, _, h, _ => by unfold capsB at h; cases h
  | _ :: _, [], _, _, h, _ => by unfold capsB at h; cases h
  | j :: js, y0 :: ys, 0, y, h, e => by
    unfold capsB at h
    rw [Bool.and_eq_true, Bool.and_eq_true, Bool.or_eq_true, decide_eq_true_eq, decide_eq_true_eq, decide_eq_true_eq] at h
    simp at e
    subst e
    exact ⟨j, rfl, h.1.1, h.1.2⟩
  | j :: js, y0 :: ys, i + 1, y, h, e => by
    unfold capsB at h
    rw [Bool.and_eq_true] at h
    obtain ⟨j', h1, h2⟩ := caps_at (i := i) h.2 (by simpa using e)
    exact ⟨j', by simpa using h1, h2⟩
theorem keep_code {S : Store} {m m' : Mp} {H H' : Hp} {a : Addr} {q : Str} (r : RelS W S m H) (e : Ext m H m' H') (h : H a = some (LamX.CodeO a q)) : H' a = some (LamX.CodeO a q) := by
  refine e.keep a _ h (fun z => ?_) LamX.codeO_ne
  obtain ⟨u, h1, _, _, h4⟩ := r.of_mem z
  rw [h] at h1
  exact h4 q (Option.some.inj h1).symm
/-- the reading of sorted by a key, behind its argument -/
theorem srt_core {r : KC} {caps : List Nat} {body : E} (B : BX W nm G C k X c) (hy : r.y = ("key" : Str)) (hl : lam1B c r.z caps (frOf r.sc) r.sc = true)
    (hbody : ∀ (X' : Cx) (k2 : Nat), BX W nm G C k2 X' { N := r.z :: frOf r.sc, sc := r.sc, st := fun _ => false } → PE X' r.lb (tD W (evE G C body)))
    {pins : List (Addr × Obj)} {s1 : Shared} {σ : L2.St} {H1 : Hp} {u : Value} {ρ : Rho} {S : Store} {m : Mp} {ds : List D} {kf : D → PyData} {R : D → Prop} {Q : VK} (I : L2.Inv X pins σ H1 s1) (rel : Rel W ρ S m σ H1)
    (col : ∀ (pins' : List (Addr × Obj)) (s2 : Shared) (H2 : Hp) (Q : List Value → Shared → Prop), L2.Inv X pins' σ H2 s2 → LamX.ExtN H1 H2 → Ext m H1 m H2 → RelS W S m H2 → (∀ h' tk vs xs, (∀ b o, s2.heap.get? b = some o → h'.get? b = some o) → Vals xs vs → RepVs W.K m H2 ds xs → Q vs { s2 with heap := h', toks := tk }) → wpAny (model X.prog X.w) X.A.in1 (collect u) Q X.xe s2)
    (keys : ∀ x ∈ ds, evE G C body (some x :: caps.map fun j => (ρ[j]?).join) S fun e S2 => S2 = S ∧ toPy e = some (kf x)) (hs : srtP ds kf R) (fin : ∀ d m' H' v, R d → Ext m H1 m' H' → RelS W S m' H' → RepV W.K m' H' d v → Q v H') :
    wpAny (model X.prog X.w) X.A (evalAll ((backToKw r.pos (keywordEach [⟨some r.y, .Lambda (lamArgs r.z r.zp) r.lb r.sc r.lp, r.kp⟩] X.env)).map (·.2)))
      (fun kvs s2 => wpAny (model X.prog X.w) X.A (call (.builtin "sorted") [u] (((backToKw r.pos (keywordEach [⟨some r.y, .Lambda (lamArgs r.z r.zp) r.lb r.sc r.lp, r.kp⟩] X.env)).filterMap (·.1)).zip kvs)) (EP X pins σ Q) X.xe s2) X.xe s1 := by
  obtain ⟨hlen, hal, hso, hdep, hR⟩ := hs
  unfold lam1B at hl
  obtain ⟨hl, hcap⟩ := and2 hl
  obtain ⟨hlm, hns⟩ := and2 hl
  have NS := NdefX.nscope_by hns
  obtain ⟨k2, ca, P, hk2, T2, TB, hcode, hmT, hu⟩ := B.lm hlm
  have capX : ∀ {i : Nat} {y : Str}, (frOf r.sc)[i]? = some y → ∃ j, caps[i]? = some j ∧ X.N[j]? = some y ∧ (X.env.scope.names.lookup y = some .cell ∨ X.env.scope.names.lookup y = some .free) := fun {i y} e => by
    obtain ⟨j, h1, h2, h3⟩ := caps_at hcap e
    exact ⟨j, h1, by rw [B.N]; exact h2, by rw [B.sc]; exact h3⟩
  have hfree : ∀ y ∈ r.sc.names, y.2 = .free → ∃ c, X.env.cells.lookup y.1 = some c := fun y hy e => by
    obtain ⟨i, hi⟩ := List.mem_iff_getElem?.mp (NS.free y hy e)
    obtain ⟨j, _, _, h3⟩ := capX hi
    exact I.ok.has _ h3
  refine (show wpAny (model X.prog X.w) X.A (evalAll ((do let v ← eval (.Lambda (lamArgs r.z r.zp) r.lb r.sc r.lp) X.env; standAt r.pos; pure v) :: [])) _ _ s1 → _ from fun z => z) ?_
  refine wpAny_evalAll_cons (wpAny_bind (LamX.lam_make2 I TB hcode hmT hu rel.st.tabs rfl hfree fun f c' pm ctv H2 s2 I2 eN TT hf hfn hfr hco => wpAny_bind (wpAny_standAt (wpAny_pure (wpAny_evalAll_nil ?_)))))
  show wpAny (model X.prog X.w) X.A (call (.builtin "sorted") [u] [(r.y, .ref f)]) _ _ s2
  rw [hy]
  obtain ⟨e2, rs2⟩ := ext_N rel.st eN TT
  refine call_function_entry_kw kind_sorted plain_sorted entry_sorted (ksk_s1 _ _) ?_
  unfold Builtin.«sorted»
  refine wpAny_bind (m := checkCount "sorted" 1 1 _) (wpAny_pure (wpAny_bind ?_))
  refine col pins s2 H2 _ I2 eN e2 rs2 fun h' tk vs xs hk rv rd => ?_
  have hlv : vs.length = ds.length := by rw [← rv.length, rd.length]
  refine wpAny_bind (wpAny_newList ?_ (by rw [hlv]; exact hlen))
  have hoL : (h'.push (seqObj "list" vs.toArray 0)).get? h'.objs.size = some (seqObj "list" vs.toArray 0) := Heap.get?_push_size _ rfl
  have I3 : L2.Inv X pins σ H2 { s2 with heap := h', toks := tk } := I2.kept hk
  have I4 : L2.Inv X pins σ H2 { s2 with heap := h'.push (seqObj "list" vs.toArray 0), toks := tk } := I3.kept fun b o e => Heap.get?_push_of_some _ e
  have hf3 : h'.get? f = _ := hk _ _ hf
  have nl : f ≠ X.env.locals := fun z => by
    obtain ⟨mm, ⟨o, es, ep, ho, hd, _⟩, _⟩ := I2.loc
    rw [← z, hf] at ho
    cases ho
    cases hd
  have nfs : f ∉ X.fs := fun z => by
    rcases I2.ok.stk with e | ⟨e, _⟩
    · exact hfr (by rw [e]; exact z)
    · refine hfr ?_
      rw [e]
      have z : f ∈ X.outer.filterMap (·.frame) := z
      show f ∈ (X.env :: X.outer).filterMap (·.frame)
      rw [List.filterMap_cons]
      split
      · exact z
      · exact List.mem_cons_of_mem _ z
  have I5 : L2.Inv X ((f, PySem.W.kla_obj "<lambda>" (X.env.qual ++ "<lambda>") (lamArgs r.z r.zp) r.lb r.sc (cloFrom X.env.cells r.sc.names []) pm c' ctv) :: pins) σ H2 { s2 with heap := h'.push (seqObj "list" vs.toArray 0), toks := tk } := I4.pins_of fun p hp => by
    rcases List.mem_cons.mp hp with rfl | hp
    · exact ⟨Heap.get?_push_of_some _ hf3, hfn, nl, nfs, fun v z => by cases z⟩
    · exact I4.pin p (List.mem_append_right _ hp)
  have I3f : L2.Inv X ((f, PySem.W.kla_obj "<lambda>" (X.env.qual ++ "<lambda>") (lamArgs r.z r.zp) r.lb r.sc (cloFrom X.env.cells r.sc.names []) pm c' ctv) :: pins) σ H2 { s2 with heap := h', toks := tk } := I3.pins_of fun p hp => by
    rcases List.mem_cons.mp hp with rfl | hp
    · exact ⟨hf3, hfn, nl, nfs, fun v z => by cases z⟩
    · exact I3.pin p (List.mem_append_right _ hp)
  refine wpAny_bind (wpAny_holding (wpAny_call_entry_kw slot_list_sort ⟨_, hoL, rfl⟩ entry_list_sort ?_ (ksk_l1 _ _)))
  show wpAny (model X.prog X.w) X.A.in1.in1 (Builtin.«list.sort» ⟨[.ref h'.objs.size], [(Str.ofString "key", .ref f)]⟩) _ _ _
  rw [ksk_t1]
  have hrm : Room (k2 + 2) X.A.in1.in1 := ((B.room.mono (show k2 + 4 ≤ k + 1 by omega)).in1).in1
  refine sort_keyed (W := W) (S := S) (m := m) (kf := kf) B.K I5 (Fsh.of I3f (Nat.le_refl _)) (I3.hok.fresh (Nat.le_refl _)) hoL rs2 rv rd (by rw [hlv]; exact hlen) hal hso (fun d hd => by have := hdep d hd; have := hrm.un; omega) (fun d hd pins' s' m' H' x v I' ex rs' rx qx hf' => ?_) fun s' H' m' ys ha' ex rs' I' hys => ?_
  · have hkey := keys d hd
    have relc : Rel W ρ S m' σ H' := (rel.ext e2 rs2).ext ex rs'
    refine wpAny_mono (key_call (N := r.z :: frOf r.sc) (fr := frOf r.sc) (x := r.z) (scope := r.sc) (params := lamArgs r.z r.zp) (body := r.lb) (ws := caps.map fun j => (σ[j]?).join) (tb := tD W (evE G C body)) I' hrm rfl NS hf' (keep_code rs2 ex hco) ?_ bind1 rx
      (fun s H hr => ?_) ?_ (Q := fun y H2 => ∃ m2 e, Ext m' H' m2 H2 ∧ RelS W S m2 H2 ∧ RepV W.K m2 H2 e y ∧ toPy e = some (kf d))) (fun _ _ z => z) fun _ _ z => z
    · refine ⟨by rw [List.length_map]; exact caps_len hcap, fun y a e => ⟨I'.freeC y a (clo_sub hfree e), I'.cell y a (clo_sub hfree e)⟩, fun x y a e1 e2 => I'.ok.inj x y a (clo_sub hfree e1) (clo_sub hfree e2), fun i y hi => ?_⟩
      obtain ⟨j, hj, hN, hkd⟩ := capX hi
      obtain ⟨a, hcl⟩ := mem_lookup (cloFrom_has (cells := X.env.cells) (acc := []) (frOf_mem.mp (List.mem_of_getElem? hi)))
      refine ⟨a, hcl, fun v hv => ?_⟩
      rw [List.getElem?_map, hj] at hv
      have hv : (σ[j]?).join = some v := Option.some.inj hv
      have hσ : σ[j]? = some (some v) := by
        cases q : σ[j]? with
        | none => rw [q] at hv; cases hv
        | some o => rw [q] at hv; rw [show o = some v from hv]
      obtain ⟨mm, _, hloc⟩ := I'.loc
      obtain ⟨w, rw1, lk⟩ := hloc j y v hN hσ (hkd.elim (fun z => .inr (.inl z)) fun z => .inr (.inr z))
      refine ⟨w, rw1, ?_⟩
      rcases lk with ⟨z, _⟩ | ⟨_, a2, z, hc⟩
      · have z : X.env.scope.names.lookup y = some .local := z
        rcases hkd with q | q <;> rw [q] at z <;> cases z
      · rw [clo_sub hfree hcl] at z
        cases z
        exact hc
    · refine PE.nox (hbody _ k2 ?_)
      exact { K := B.K, prog := B.prog, w := B.w, calm := rfl, nd := NS.nd, N := rfl, sc := rfl, kind := NS.kind, st := (fun _ z => nomatch z), room := hr, po := PassesOwn.never, T := T2, tl := (fun z => nomatch z), lm := (fun z => nomatch z) }
    · refine ⟨_, S, m', _, ⟨?_, fun i e he => ?_, rs'⟩, hkey, fun e S' m2 H2 v hR ext rs3 rep => ?_⟩
      · unfold NdefX.startF
        rw [List.length_cons, List.length_map, List.length_append, List.length_append, List.length_map, List.length_map, List.length_replicate, List.length_cons, caps_len hcap]
        simp
        omega
      · cases i with
        | zero =>
          have he : some (some d) = some (some e) := he
          cases he
          exact ⟨x, rfl, qx⟩
        | succ i =>
          have he : (caps.map fun j => (ρ[j]?).join)[i]? = some (some e) := he
          rw [List.getElem?_map] at he
          cases hc : caps[i]? with
          | none => rw [hc] at he; cases he
          | some j =>
            rw [hc] at he
            have he : (ρ[j]?).join = some e := Option.some.inj he
            have hρ : ρ[j]? = some (some e) := by
              cases q : ρ[j]? with
              | none => rw [q] at he; cases he
              | some o => rw [q] at he; rw [show o = some e from he]
            obtain ⟨v, h1, h2⟩ := relc.val j e hρ
            refine ⟨v, ?_, h2⟩
            unfold NdefX.startF
            show ((caps.map fun j => (σ[j]?).join) ++ _)[i]? = some (some v)
            rw [List.getElem?_append_left (by rw [List.length_map]; exact (List.getElem?_eq_some_iff.mp hc).1), List.getElem?_map, hc]
            show some ((σ[j]?).join) = _
            rw [h1]
            rfl
      · obtain ⟨rfl, hp⟩ := hR
        exact ⟨m2, e, ext, rs3, rep, hp⟩
  · refine ⟨_, rfl, wpAny_pure ⟨_, rfl, .ref _, _, Inv.unown I', rfl, ?_⟩⟩
    have e4 := Ext.laid (m := m') ha' (.lst ys)
    exact fin _ m' _ _ hR (e2.tr rs2 (ex.tr rs' e4)) (rs'.laid ha' _) ⟨_, ys, rfl, rs'.fresh ha', upd_same, hys.ext e4⟩

theorem c_srtk {r : KC} {a body : E} {caps : List Nat} (B : BX W nm G C k X c) (h1 : isGlob c.sc r.n = true) (hn : r.n = ("sorted" : Str)) (hy : r.y = ("key" : Str)) (hp : plainX r.a = true) (hl : lam1B c r.z caps (frOf r.sc) r.sc = true) (ha : PE X r.a (tD W (evE G C a)))
    (hbody : ∀ (X' : Cx) (k2 : Nat), BX W nm G C k2 X' { N := r.z :: frOf r.sc, sc := r.sc, st := fun _ => false } → PE X' r.lb (tD W (evE G C body))) :
    PE X r.x (tD W fun ρ S R => evE G C a ρ S fun d S1 => ∃ ds kf, colOf S1 d = some ds ∧ (∀ x ∈ ds, evE G C body (some x :: caps.map fun j => (ρ[j]?).join) S1 fun e S2 => S2 = S1 ∧ toPy e = some (kf x)) ∧ srtP ds kf fun d => R d S1) := by
  refine ⟨fun pins s σ H Q I h => ?_⟩
  obtain ⟨ρ, S, m, R, rel, h, fin⟩ := h
  have hA : tCons (tD W (evE G C a)) tNil σ H (fun vs H1 => ∃ v d S1 m1 ds kf, vs = [v] ∧ Ext m H m1 H1 ∧ RelS W S1 m1 H1 ∧ RepV W.K m1 H1 d v ∧ colOf S1 d = some ds ∧ (∀ x ∈ ds, evE G C body (some x :: caps.map fun j => (ρ[j]?).join) S1 fun e S2 => S2 = S1 ∧ toPy e = some (kf x)) ∧ srtP ds kf fun d => R d S1) :=
    ⟨ρ, S, m, _, rel, h, fun d S1 m1 H1 v hR e r q => let ⟨ds, kf, h1, h2, h3⟩ := hR; ⟨v, d, S1, m1, ds, kf, rfl, e, r, q, h1, h2, h3⟩⟩
  have hg := B.gl h1
  show wpAny _ _ (eval (.Call (.Name r.n r.p) [r.a] _ r.pos) X.env) _ _ s
  rw [hn] at hg ⊢
  have st := star_plain hp [] X.env
  refine wpAny_Call_Name_kw (ld_blt I hg (B.none (by decide)) PyProof.Rows.boot_sorted ?_ (by decide) (by decide))
  refine callWith_kw (thn ((pa_cons ha pa_nil st).run r.pos pins s σ H _ I hA) fun us s1 ⟨vs, H1, I1, r1, q1⟩ => ?_) (by rw [st]; rfl) (by rw [st]; rfl) (by rfl) (by rfl)
  obtain ⟨v, d, S1, m1, ds, kf, rfl, e1, rs1, q1, hc, hk, hs⟩ := q1
  obtain ⟨u, rfl, ru⟩ := vals1 r1
  exact srt_core B hy hl hbody I1 (rel.ext e1 rs1) (fun pins' s2 H2 Q' I2 eN ex rs2 hQ => collect_col B.K B.prog B.w (A := X.A.in1) B.room.hd I2 rs2 (q1.ext ex) ru hc hs.1 hQ) hk hs fun d m' H' v hd ex rs rep => fin d S1 m' H' v hd (e1.tr rs1 ex) rs rep
theorem cr_range1 : CallR X (.type "range") (fun vs H Q => ∃ j, vs = [V.int j] ∧ ∀ p, H p = none → Q (.ref p) (upd H p (.rng 0 j))) := by
  intro pins s σ H vs us Q I r h
  obtain ⟨j, rfl, q⟩ := h
  obtain ⟨u, rfl, ru⟩ := vals1 r
  obtain ⟨t, rfl⟩ := ru
  refine call_range_1 ⟨.ref s.heap.objs.size, upd H s.heap.objs.size (.rng 0 j), I.laid (t' := s.toks + 1 + 1) (fun b o e => Heap.get?_push_of_some _ e) (Nat.le_refl _) ?_, rfl, q _ (I.hok.fresh (Nat.le_refl _))⟩
  exact ⟨s.toks, t, s.toks + 1, Heap.get?_push_size _ rfl⟩
theorem c_srtr {r : KC} {q : C1} {a body : E} {caps : List Nat} (B : BX W nm G C k X c) (hra : r.a = q.x) (h1 : isGlob c.sc r.n = true) (hn : r.n = ("sorted" : Str)) (h2 : isGlob c.sc q.n = true) (hn2 : q.n = ("range" : Str)) (hy : r.y = ("key" : Str)) (hp : plainX q.a = true) (hl : lam1B c r.z caps (frOf r.sc) r.sc = true) (ha : PE X q.a (tD W (evE G C a)))
    (hbody : ∀ (X' : Cx) (k2 : Nat), BX W nm G C k2 X' { N := r.z :: frOf r.sc, sc := r.sc, st := fun _ => false } → PE X' r.lb (tD W (evE G C body))) :
    PE X r.x (tD W fun ρ S R => evE G C a ρ S fun d S1 => match d with
      | .int j => (-(2 ^ 62) ≤ j ∧ j ≤ 16777216) ∧ ∃ kf, (∀ x ∈ rgD 0 j.toNat, evE G C body (some x :: caps.map fun j => (ρ[j]?).join) S1 fun e S2 => S2 = S1 ∧ toPy e = some (kf x)) ∧ srtP (rgD 0 j.toNat) kf fun d => R d S1
      | _ => False) := by
  refine ⟨fun pins s σ H Q I h => ?_⟩
  obtain ⟨ρ, S, m, R, rel, h, fin⟩ := h
  have hpr : PE X q.x (tCB (fun vs H Q => ∃ j, vs = [V.int j] ∧ ∀ p, H p = none → Q (.ref p) (upd H p (.rng 0 j))) (tCons (tD W (evE G C a)) tNil)) := by
    have hg2 := B.gl h2
    show PE X (.Call (.Name q.n q.p) [q.a] [] q.pos) _
    rw [hn2] at hg2 ⊢
    exact pe_callTy cr_range1 hg2 (B.none (by decide)) PyProof.Rows.boot_range (pa_cons ha pa_nil (star_plain hp _ _)) (by decide) (by decide) (star_plain hp _ _) rfl
  have hA : tCons (tCB (fun vs H Q => ∃ j, vs = [V.int j] ∧ ∀ p, H p = none → Q (.ref p) (upd H p (.rng 0 j))) (tCons (tD W (evE G C a)) tNil)) tNil σ H (fun vs H1 => ∃ p j S1 m1 kf, vs = [.ref p] ∧ H1 p = some (.rng 0 j) ∧ Ext m H m1 H1 ∧ RelS W S1 m1 H1 ∧ (-(2 ^ 62) ≤ j ∧ j ≤ 16777216) ∧
      (∀ x ∈ rgD 0 j.toNat, evE G C body (some x :: caps.map fun j => (ρ[j]?).join) S1 fun e S2 => S2 = S1 ∧ toPy e = some (kf x)) ∧ srtP (rgD 0 j.toNat) kf fun d => R d S1) := by
    refine ⟨ρ, S, m, _, rel, h, fun d S1 m1 H1 v hR e r qv => ?_⟩
    cases d with
    | int j =>
      obtain rfl : v = .int j := qv
      obtain ⟨hb, kf, h3, h4⟩ := hR
      refine ⟨j, rfl, fun p hp => ?_⟩
      have e2 := Ext.laid (m := m1) hp (.rng 0 j)
      exact ⟨p, j, S1, m1, kf, rfl, upd_same, e.tr r e2, r.laid hp _, hb, h3, h4⟩
    | _ => cases hR
  have hg := B.gl h1
  show wpAny _ _ (eval (.Call (.Name r.n r.p) [r.a] _ r.pos) X.env) _ _ s
  rw [hn] at hg ⊢
  rw [hra]
  have st := star_plain (x := q.x) rfl [] X.env
  refine wpAny_Call_Name_kw (ld_blt I hg (B.none (by decide)) PyProof.Rows.boot_sorted ?_ (by decide) (by decide))
  refine callWith_kw (thn ((pa_cons hpr pa_nil st).run r.pos pins s σ H _ I hA) fun us s1 ⟨vs, H1, I1, r1, q1⟩ => ?_) (by rw [st]; rfl) (by rw [st]; rfl) (by rfl) (by rfl)
  obtain ⟨p, j, S1, m1, kf, rfl, hpj, e1, rs1, hb, hk, hs⟩ := q1
  obtain ⟨u, rfl, ru⟩ := vals1 r1
  obtain rfl : u = Value.ref p := ru
  refine srt_core B hy hl hbody I1 (rel.ext e1 rs1) (fun pins' s2 H2 Q' I2 eN ex rs2 hQ => ?_) hk hs fun d m' H' v hd ex rs rep => fin d S1 m' H' v hd (e1.tr rs1 ex) rs rep
  have hp2 : H2 p = some (.rng 0 j) := eN p _ hpj (fun _ z => by cases z)
  obtain ⟨t1, t2, t3, hr⟩ := (show ObjOk X.prog X.w H2 s2.heap p (.rng 0 j) from I2.hok p _ hp2)
  refine L2.collect_range (A := X.A.in1) (n := j.toNat) B.room.hd (a := 0) (b := j) (c := 1) hr (small_one (by omega) (by omega) (by omega) (by omega)) (by have := rangeSize_nat 0 j; rw [show (j - 0).toNat = j.toNat by omega] at this; exact this) (by omega) fun h' tk acc hk' hi => ?_
  refine hQ h' tk acc.toList (rgV 0 j) hk' (vals_rg (a := 0) (b := j) (by rw [show (j - 0).toNat = j.toNat by omega]; exact hi)) ?_
  unfold rgV rgD
  rw [show (j - 0).toNat = j.toNat by omega]
  generalize List.range j.toNat = l
  induction l with
  | nil => exact RepVs.nil
  | cons i l ih => exact RepVs.cons rfl ih
end
end DL

set_option Elab.async false
set_option linter.all false
set_option maxRecDepth 100000
set_option maxHeartbeats 4000000
/-! DL11D: sets of numbers. -/
namespace DL
open PySem PySem.Spec PyProof.Rows L2
abbrev setO (w : World) : Obj := { cls := .type "set", dict := none, data := .set #[] 0 (.fresh 0 0 (!w.params.followText "set-order")) }
section
variable {P : Program} {w : World} {A : Around} {E : Value → Shared → Prop} {s : Shared}
/-- what set(l) leaves -/
def SetEnd (w : World) (s : Shared) (ns : List Int) (s' : Shared) : Prop := ∃ h' tk c, s' = { s with heap := h', toks := tk } ∧ SetR w h' s.heap.objs.size (fun j => decide (j ∈ ns)) c ∧ ∀ b o, s.heap.get? b = some o → h'.get? b = some o
theorem set_init {l : Addr} {items : Array Value} (ns : List Int) (hh : A.handled = none) (hl : s.heap.IsList l items) (hit : IntsAre items.toList ns) (hb : ns.length + 1 < scanBound) :
    codeAny (model P w) A (.call (.builtin "set.__init__") ⟨[.ref s.heap.objs.size, .ref l], []⟩) (wants (fun r s₂ => r = .none ∧ SetEnd w s ns s₂) E) { s with heap := s.heap.push (setO w) } := by
  have hisz : items.size = ns.length := by have q := IntsAre.length hit; rw [Array.length_toList] at q; exact q
  obtain ⟨sz, hsz⟩ : ∃ sz, sz = s.heap.objs.size := ⟨_, rfl⟩
  obtain ⟨hp, hhp⟩ : ∃ hp, hp = s.heap.push (setO w) := ⟨_, rfl⟩
  have hS : hp.get? sz = some (setO w) := by rw [hhp, hsz]; exact Heap.get?_push_size _ rfl
  have hps : hp.objs.size = sz + 1 := by rw [hhp, hsz]; exact Heap.size_push ..
  obtain ⟨ol, hol, hcl, nl, hdl⟩ := hl
  obtain ⟨ocls, odict, odata, oslots⟩ := ol
  simp only at hcl hdl
  subst hcl
  subst hdl
  have hlS : l < sz := by rw [hsz]; exact Heap.lt_size hol
  have old : ∀ b o, s.heap.get? b = some o → hp.get? b = some o := fun b o e => by rw [hhp]; exact Heap.get?_push_of_some _ e
  have hol' := old _ _ hol
  have hl1 : hp.IsList l items := ⟨_, hol', rfl, nl, rfl⟩
  have hT : Shared.TypeIs { s with heap := hp } (.ref sz) "set" := ⟨_, hS, rfl⟩
  rw [← hhp, ← hsz]
  refine codeAny_call_builtin F.called_set.init.plain F.entry_set_init (check_set_init_1 hT ?_)
  have f1 := F.sub_list_set
  have f2 := F.sub_list_frozenset
  have f3 : (Value.type "list" == Value.type "dict") = false := by decide
  unfold Builtin.«set.__init__» noKeywords Builtin.Frozenset.updateFrom
  generalize hPI : pyIter = PI
  wp_walk
  subst hPI
  refine wpAny_pyIter_list hl1 (wpAny_bind (wpAny_runValue ?_))
  have h3 : A.in1.in1.handled = none := by simp [hh]
  have n1 : l ≠ hp.objs.size := by rw [hps]; exact Nat.ne_of_lt (Nat.lt_succ_of_lt hlS)
  have n2 : sz ∉ [hp.objs.size, l] := by
    rw [hps]
    simp only [List.mem_cons, List.not_mem_nil, or_false, not_or]
    exact ⟨Nat.ne_of_lt (Nat.lt_succ_self _), Nat.ne_of_gt hlS⟩
  have hval : ∀ (i : Nat) (v : Value), items[i]? = some v → ∃ k t, ns[i]? = some k ∧ v = .int k t := fun i v hv => by
    have hi : i < ns.length := by rw [← hisz]; exact (Array.getElem?_eq_some_iff.mp hv).1
    obtain ⟨t, e⟩ := PyProof.Rows.IntsAre.int_at hit i v (by rw [Array.getElem?_toList]; exact hv)
    refine ⟨ns[i], t, List.getElem?_eq_getElem hi, ?_⟩
    rw [e, List.getD_eq_getElem?_getD, List.getElem?_eq_getElem hi]
    rfl
  refine set_update_ints ((Walks.list h3 _ l n1 items).toS) sz n2 ns hisz hb hval (items.size - 0) 0 _ (by omega) (Nat.zero_le _) ?_ ?_ ?_
  · exact ⟨⟨_, Heap.get?_push_size _ rfl, rfl, rfl⟩, hl1.push _⟩
  · exact ⟨0, Nat.le_refl 0, setR_new_at (Heap.get?_push_of_some _ hS)⟩
  · intro s' c' hm hc' hS'
    obtain ⟨h', g2, d', tk', os'⟩ := s'
    obtain rfl : g2 = s.gens := hm.gens
    obtain rfl : d' = s.drawn := hm.drawn
    obtain rfl : os' = s.os := hm.os
    refine wpAny_pure (wpAny_pure ⟨rfl, h', tk', c', rfl, by rw [← hsz]; exact hS', fun b o e => ?_⟩)
    have b0 : b < sz := by rw [hsz]; exact Heap.lt_size e
    refine hm.heap b o ?_ (Heap.get?_push_of_some _ (old b o e))
    rw [hps]
    simp only [List.mem_cons, List.not_mem_nil, or_false, not_or]
    exact ⟨Nat.ne_of_lt b0, Nat.ne_of_lt (Nat.lt_succ_of_lt b0)⟩

theorem call_set_listR {l : Addr} {items : Array Value} (ns : List Int) {Q : Value → Shared → Prop} (hh : A.handled = none) (hl : s.heap.IsList l items) (hit : IntsAre items.toList ns) (hb : ns.length + 1 < scanBound)
    (h : ∀ s', SetEnd w s ns s' → Q (.ref s.heap.objs.size) s') : wpAny (model P w) A (call (.type "set") [.ref l]) Q E s := by
  obtain ⟨c, tl, hmro⟩ := F.called_set.mro
  have q1 := F.called_set.made
  have q2 := F.called_set.sub
  refine wpAny_call (codeAny_of_tree (show wpAny _ _ (callAny (.type "set") _) _ _ _ from wpAny_pure ⟨Code.quiet_builtin _ (by decide +kernel), codeAny_builtin F.entry_type_call ?_⟩))
  rw [Around.under_plain (weight_type_call_type "set" [.ref l] []) rfl]
  have q3 := F.called_set.notType
  have q4 := F.called_set.canCreate
  have q5 := F.typeCall_set_1 (.ref l)
  repeat (any_goals (first | assumption | wp_step))
  refine codeAny_mono (code_set_led1 (.ref l) (E := E) (Q₁ := fun obj s₁ => obj = .ref s.heap.objs.size ∧ s₁ = { s with heap := s.heap.push (setO w) }) ⟨rfl, rfl⟩) fun r s₁ hr => ?_
  match r, hr with
  | .error e, hr => exact hr
  | .ok .next, hr => exact hr.elim
  | .ok .brk, hr => exact hr.elim
  | .ok .cont, hr => exact hr.elim
  | .ok (.ret obj), hr =>
    obtain ⟨rfl, rfl⟩ := hr
    have q6 : Shared.TypeIs { s with heap := s.heap.push (setO w) } (.ref s.heap.objs.size) "set" := ⟨_, Heap.get?_push_size _ rfl, rfl⟩
    have q7 := F.called_set.init.lookup
    have q8 := F.called_set.init.bind (.ref s.heap.objs.size)
    repeat (any_goals (first | assumption | wp_step))
    refine codeAny_mono (set_init (E := E) ns (by simp [hh]) hl hit hb) fun r₂ s₂ hr₂ => ?_
    match r₂, hr₂ with
    | .error e, hr₂ => exact hr₂
    | .ok .next, hr₂ => exact hr₂.elim
    | .ok .brk, hr₂ => exact hr₂.elim
    | .ok .cont, hr₂ => exact hr₂.elim
    | .ok (.ret x), hr₂ =>
      obtain ⟨rfl, hr₂⟩ := hr₂
      have hr3 := hr₂
      obtain ⟨h', tk, c', rfl, _, _⟩ := hr3
      repeat (any_goals (first | assumption | wp_step))
      exact h _ hr₂

open SrtO Srt in
theorem sorted_setR {a : Addr} {S : Int → Bool} {n : Nat} {Q : Value → Shared → Prop} (R : SetR w s.heap a S n) (hh : A.handled = none)
    (hQ : ∀ s' p (out : List Value) (c : Nat) (ns : List Int), (∀ b o, s.heap.get? b = some o → s'.heap.get? b = some o) → s'.gens = s.gens → s'.os = s.os → s.heap.objs.size ≤ p → s'.heap.get? p = some (seqObj "list" out.toArray c) → IntsAre out ns →
      ns.Pairwise (· < ·) → (∀ k, k ∈ ns ↔ S k = true) → ns.length = n → n < scanBound → Q (.ref p) s') : wpAny (model P w) A (call (.builtin "sorted") [.ref a]) Q E s := by
  obtain ⟨o, es, ep, t, ho, hex, hd, g, nd, hm, hb, hf, hn, hr, hl⟩ := R
  refine Calls.call_function_entry kind_sorted plain_sorted entry_sorted (args_sorted1 _) ?_
  unfold Builtin.«sorted»
  refine wpAny_bind (m := checkCount "sorted" 1 1 _) (wpAny_pure (wpAny_bind ?_))
  refine collect_set (A := A.in1) hh ⟨o, ho, hex.1, hd⟩ hf hb hr hl fun s1 vs k1 hz g1 o1 pm => ?_
  have hvl : vs.length = n := by rw [pm.length_eq, List.length_map, Array.length_toList]; exact hn
  have hI : IntsAre vs (vs.map iv) := ints_iv fun v hv => by
    obtain ⟨e, he, q⟩ := List.mem_map.mp (pm.mem_iff.mp hv)
    obtain ⟨k, tk, h1, _⟩ := g e he
    exact ⟨k, tk, by rw [← q]; exact h1⟩
  have pk : (vs.map iv).Perm (es.toList.map L2.keyOf) := by
    have q := pm.map iv
    rw [List.map_map] at q
    refine q.trans (List.Perm.of_eq (List.map_congr_left fun e he => ?_))
    obtain ⟨k, tk, h1, _⟩ := g e he
    show iv e.2 = L2.keyOf e
    unfold L2.keyOf
    rw [h1]
    rfl
  have hzl : vs.length ≤ sizeLine := by rw [hvl, ← hn, sizeLine_eq]; unfold scanBound at hb; omega
  refine wpAny_bind (wpAny_newList ?_ hzl)
  have hoL : (s1.heap.push (seqObj "list" vs.toArray 0)).get? s1.heap.objs.size = some (seqObj "list" vs.toArray 0) := Heap.get?_push_size _ rfl
  refine wpAny_bind (wpAny_holding (wpAny_call_entry slot_list_sort ⟨_, hoL, rfl⟩ entry_list_sort (list_sort_ord swo_int hoL hzl (fun h2 => ints_sortable hI h2) fun out hs hb2 => ⟨_, rfl, ?_⟩) (args_list_sort _)))
  obtain ⟨a1, a2, a3⟩ := ints_out hI hs hb2
  obtain ⟨c, hc⟩ := sortedHeap_at (vs := vs) (out := out.toArray) hoL
  have pn : (out.map iv).Perm (es.toList.map L2.keyOf) := a2.trans pk
  refine wpAny_pure ⟨_, rfl, hQ _ s1.heap.objs.size out c (out.map iv) (fun b u e => ?_) g1 o1 hz hc a1 (lt_of_le_nodup _ a3 (pn.nodup_iff.mpr nd)) (fun k => by rw [pn.mem_iff, ← hm k]) ?_ (by rw [← hn]; exact hb)⟩
  · have q := k1 b u e
    show (sortedHeap (s1.heap.push (seqObj "list" vs.toArray 0)) s1.heap.objs.size vs out.toArray).get? b = some u
    rw [sortedHeap_old (Nat.ne_of_lt (Heap.lt_size q)) (by rw [size_push']; exact Nat.lt_succ_of_lt (Heap.lt_size q))]
    exact Heap.get?_push_of_some _ q
  · rw [pn.length_eq, List.length_map, Array.length_toList]; exact hn
end
theorem inc_uniq : ∀ {xs ys : List Int}, xs.Pairwise (· < ·) → ys.Pairwise (· < ·) → (∀ x, x ∈ xs ↔ x ∈ ys) → xs = ys
  | [], [], _, _, _ => rfl
  | [], y :: ys, _, _, h => by have := (h y).mpr List.mem_cons_self; cases this
  | x :: xs, [], _, _, h => by have := (h x).mp List.mem_cons_self; cases this
  | x :: xs, y :: ys, hx, hy, h => by
    rw [List.pairwise_cons] at hx hy
    have e : x = y := by
      rcases List.mem_cons.mp ((h x).mp List.mem_cons_self) with e | h1
      · exact e
      · rcases List.mem_cons.mp ((h y).mpr List.mem_cons_self) with e | h2
        · exact e.symm
        · have := hx.1 y h2
          have := hy.1 x h1
          omega
    subst e
    rw [inc_uniq hx.2 hy.2 fun z => ?_]
    constructor
    · intro hz
      rcases List.mem_cons.mp ((h z).mp (List.mem_cons_of_mem _ hz)) with e | h1
      · have := hx.1 z hz; omega
      · exact h1
    · intro hz
      rcases List.mem_cons.mp ((h z).mpr (List.mem_cons_of_mem _ hz)) with e | h1
      · have := hy.1 z hz; omega
      · exact h1
theorem mem_setI {i : Int} : ∀ {ns : List Int}, i ∈ setI ns ↔ i ∈ ns
  | [] => Iff.rfl
  | j :: r => by
    unfold setI
    split
    · rename_i h
      rw [mem_setI, List.mem_cons]
      exact ⟨.inr, fun z => z.elim (fun e => by rw [e]; exact mem_setI.mp h) id⟩
    · rw [List.mem_cons, List.mem_cons, mem_setI]
theorem nodup_setI : ∀ ns : List Int, (setI ns).Nodup
  | [] => List.nodup_nil
  | j :: r => by
    unfold setI
    split
    · exact nodup_setI r
    · rename_i h
      exact List.nodup_cons.mpr ⟨h, nodup_setI r⟩
theorem setI_len : ∀ ns : List Int, (setI ns).length ≤ ns.length
  | [] => Nat.le_refl _
  | j :: r => by
    have := setI_len r
    unfold setI
    split
    · rw [List.length_cons]; omega
    · rw [List.length_cons, List.length_cons]; omega
theorem set_sorted {ns out : List Int} (h1 : out.Pairwise (· < ·)) (h2 : ∀ k, k ∈ out ↔ k ∈ ns) : out = sortI (setI ns) := by
  have p := sortI_perm (setI ns)
  exact inc_uniq h1 (lt_of_le_nodup _ (sortI_sorted _) (p.nodup_iff.mpr (nodup_setI ns))) fun k => by rw [h2, p.mem_iff, mem_setI]
theorem Inv.dr {X : Cx} {pins : List (Addr × Obj)} {σ : L2.St} {H : Hp} {s : Shared} (I : L2.Inv X pins σ H s) (d : Drawn) : L2.Inv X pins σ H { s with drawn := d } := ⟨I.ok, I.os, I.bare, I.base, I.loc, I.cell, I.free, I.freeC, I.pin, I.hok, I.len⟩
section
variable {W : Wd} {nm : Nm} {G : Nat → Option Phi} {C : Nat → Option Int} {k : Nat} {X : Cx} {c : Ck}
/-- the set of a row of numbers is made -/
theorem set_of_row {pins : List (Addr × Obj)} {σ : L2.St} {H : Hp} {s : Shared} {S : Store} {m : Mp} {d : D} {ds : List D} {ns : List Int} {x : V} {u : Value} {E : Value → Shared → Prop} {Q : Value → Shared → Prop} (hK : X.K = W.K) (hh : X.A.handled = none) (I : L2.Inv X pins σ H s) (r : RelS W S m H) (q : RepV W.K m H d x) (rx : L2.RelV x u) (h : seqOf S d = some ds) (hi : intsOf ds = some ns) (hb : ns.length ≤ 4000)
    (hQ : ∀ (h' : Heap) (tk c : Nat), SetR X.w h' s.heap.objs.size (fun j => decide (j ∈ ns)) c → L2.Inv X pins σ H { s with heap := h', toks := tk } → Q (.ref s.heap.objs.size) { s with heap := h', toks := tk }) : wpAny (model X.prog X.w) X.A (call (.type "set") [u]) Q E s := by
  obtain ⟨xs, ⟨a, rfl, hq⟩, hv⟩ := seq_rep r q h
  obtain rfl : u = Value.ref a := rx
  obtain rfl := intsOf_eq hi
  obtain rfl := hv.ints_inv
  have hbb : ns.length + 1 < scanBound := by unfold scanBound; omega
  rcases hq with ⟨hq, _⟩ | ⟨hq, _⟩
  · obtain ⟨its, rv, pl, hz⟩ := I.list (show SqL X.K H a _ by rw [hK]; exact hq)
    refine call_set_listR ns hh pl.isList (by simpa using rv.ints) hbb fun s' hs => ?_
    obtain ⟨h', tk, cc, rfl, hR, hk⟩ := hs
    exact hQ h' tk cc hR (I.kept hk)
  · obtain ⟨its, rv, pl, hz⟩ := I.tuple (show SqT X.K H a _ by rw [hK]; exact hq.sq)
    refine call_set_tupI ns hh pl (by simpa using rv.ints) hbb fun h' tk cc hR _ hk => ?_
    exact hQ h' tk cc hR (I.kept hk)
theorem set_row_len {S : Int → Bool} {n : Nat} {ns : List Int} {w : World} {h : Heap} {a : Addr} (R : SetR w h a S n) (hS : ∀ k, S k = true ↔ k ∈ ns) : n = (setI ns).length := by
  obtain ⟨o, es, ep, t, ho, hex, hd, g, nd, hm, hb, hf, hn, hr, hl⟩ := R
  have hp : (sortI (es.toList.map L2.keyOf)) = sortI (setI ns) := set_sorted (lt_of_le_nodup _ (sortI_sorted _) ((sortI_perm _).nodup_iff.mpr nd)) fun k => by rw [(sortI_perm _).mem_iff, ← hm k, hS k]
  have e1 := (sortI_perm (es.toList.map L2.keyOf)).length_eq
  have e2 := (sortI_perm (setI ns)).length_eq
  rw [hp, e2, List.length_map] at e1
  have e3 : es.toList.length = es.size := Array.length_toList
  omega
theorem c_srts {r q : C1} {f : FE} (B : BX W nm G C k X c) (hra : r.a = q.x) (h1 : isGlob c.sc r.n = true) (hn : r.n = ("sorted" : Str)) (h2 : isGlob c.sc q.n = true) (hn2 : q.n = ("set" : Str)) (hp : plainX q.a = true) (ha : PE X q.a (tD W f)) :
    PE X r.x (tD W fun ρ S R => f ρ S fun d S1 => ∃ ds ns, seqOf S1 d = some ds ∧ intsOf ds = some ns ∧ ns.length ≤ 4000 ∧ R (.fl ((sortI (setI ns)).map .int)) S1) := by
  refine ⟨fun pins s σ H Q I h => ?_⟩
  obtain ⟨ρ, S, m, R, rel, h, fin⟩ := h
  have g1 := B.gl h1
  have g2 := B.gl h2
  show wpAny _ _ (eval (.Call (.Name r.n r.p) [r.a] [] r.pos) X.env) _ _ s
  rw [hra]
  show wpAny _ _ (eval (.Call (.Name r.n r.p) [.Call (.Name q.n q.p) [q.a] [] q.pos] [] r.pos) X.env) _ _ s
  rw [hn] at g1 ⊢
  rw [hn2] at g2 ⊢
  have na := star_plain hp [] X.env
  have hA : tD W f σ H fun v H1 => ∃ d S1 m1 ds ns, Ext m H m1 H1 ∧ RelS W S1 m1 H1 ∧ RepV W.K m1 H1 d v ∧ seqOf S1 d = some ds ∧ intsOf ds = some ns ∧ ns.length ≤ 4000 ∧ R (.fl ((sortI (setI ns)).map .int)) S1 :=
    ⟨ρ, S, m, _, rel, h, fun d S1 m1 H1 v hR e r q => let ⟨ds, ns, a1, a2, a3, a4⟩ := hR; ⟨d, S1, m1, ds, ns, e, r, q, a1, a2, a3, a4⟩⟩
  refine Call_ (ld_blt I g1 (B.none (by decide)) PyProof.Rows.boot_sorted ?_)
  refine PyProof.Rows.callWith_builtin1 (PyProof.Rows.args_cons ?_ rfl) rfl rfl
  refine Call_ (ld_blt I g2 (B.none (by decide)) PyProof.Rows.boot_set ?_)
  refine PyProof.Rows.callWith_type1 (PyProof.Rows.args_cons (thn (ha.run pins s σ H _ I hA) fun v s1 ⟨x, H1, I1, r1, q1⟩ => PyProof.Rows.args_nil ?_) na) na rfl
  obtain ⟨d, S1, m1, ds, ns, e1, rs1, qv, hs, hi, hb, hR⟩ := q1
  refine set_of_row B.K B.room.hd I1 rs1 qv r1 hs hi hb fun h' tk cc hSR I2 => PyProof.Rows.args_nil ?_
  refine sorted_setR hSR B.room.hd fun s' p out c' ns' hk hg ho hz hpo hio hlt hmem hlen hbd => ?_
  obtain ⟨h3, g3, d3, t3, o3⟩ := s'
  obtain rfl : g3 = s1.gens := hg
  obtain rfl : o3 = s1.os := ho
  have I3 := Inv.dr I2 d3
  have hall : ns' = sortI (setI ns) := set_sorted hlt fun k => by rw [hmem]; simp
  have fresh : H1 p = none := I2.hok.fresh hz
  have hl2 : (ns'.map V.int).length ≤ sizeLine := by rw [List.length_map, hlen, sizeLine_eq]; unfold scanBound at hbd; omega
  have e4 := Ext.laid (m := m1) fresh (.lst (ns'.map V.int))
  refine ⟨.ref p, upd H1 p (.lst (ns'.map V.int)), ?_, rfl, ?_⟩
  · refine Inv.laidN (s := { s1 with heap := h', toks := tk, drawn := d3 }) (h' := h3) (t' := t3) I3 hk ?_ fresh ⟨hl2, out, c', vals_of_ints hio, hpo⟩
    exact Heap.get?_none_of_le hz
  · rw [hall] at e4 ⊢
    exact fin _ S1 m1 _ _ hR (e1.tr rs1 e4) (rs1.laid fresh _) ⟨p, _, rfl, rs1.fresh fresh, upd_same, RepVs.ints _⟩
theorem c_lens {r q : C1} {f : FE} (B : BX W nm G C k X c) (hra : r.a = q.x) (h1 : isGlob c.sc r.n = true) (hn : r.n = ("len" : Str)) (h2 : isGlob c.sc q.n = true) (hn2 : q.n = ("set" : Str)) (hp : plainX q.a = true) (ha : PE X q.a (tD W f)) :
    PE X r.x (tD W fun ρ S R => f ρ S fun d S1 => ∃ ds ns, seqOf S1 d = some ds ∧ intsOf ds = some ns ∧ ns.length ≤ 4000 ∧ R (.int (setI ns).length) S1) := by
  refine ⟨fun pins s σ H Q I h => ?_⟩
  obtain ⟨ρ, S, m, R, rel, h, fin⟩ := h
  have g1 := B.gl h1
  have g2 := B.gl h2
  show wpAny _ _ (eval (.Call (.Name r.n r.p) [r.a] [] r.pos) X.env) _ _ s
  rw [hra]
  show wpAny _ _ (eval (.Call (.Name r.n r.p) [.Call (.Name q.n q.p) [q.a] [] q.pos] [] r.pos) X.env) _ _ s
  rw [hn] at g1 ⊢
  rw [hn2] at g2 ⊢
  have na := star_plain hp [] X.env
  have hA : tD W f σ H fun v H1 => ∃ d S1 m1 ds ns, Ext m H m1 H1 ∧ RelS W S1 m1 H1 ∧ RepV W.K m1 H1 d v ∧ seqOf S1 d = some ds ∧ intsOf ds = some ns ∧ ns.length ≤ 4000 ∧ R (.int (setI ns).length) S1 :=
    ⟨ρ, S, m, _, rel, h, fun d S1 m1 H1 v hR e r q => let ⟨ds, ns, a1, a2, a3, a4⟩ := hR; ⟨d, S1, m1, ds, ns, e, r, q, a1, a2, a3, a4⟩⟩
  refine Call_ (ld_blt I g1 (B.none (by decide)) PySem.boot_len ?_)
  refine PyProof.Rows.callWith_builtin1 (PyProof.Rows.args_cons ?_ rfl) rfl rfl
  refine Call_ (ld_blt I g2 (B.none (by decide)) PyProof.Rows.boot_set ?_)
  refine PyProof.Rows.callWith_type1 (PyProof.Rows.args_cons (thn (ha.run pins s σ H _ I hA) fun v s1 ⟨x, H1, I1, r1, q1⟩ => PyProof.Rows.args_nil ?_) na) na rfl
  obtain ⟨d, S1, m1, ds, ns, e1, rs1, qv, hs, hi, hb, hR⟩ := q1
  refine set_of_row B.K B.room.hd I1 rs1 qv r1 hs hi hb fun h' tk cc hSR I2 => PyProof.Rows.args_nil ?_
  have hc := set_row_len hSR (ns := ns) (by simp)
  obtain ⟨o, es, ep, t, ho, hex, hd, g, nd, hm, hb, hf, hn, hr, hl⟩ := hSR
  refine call_len_set ho hex hd hf (by unfold scanBound at hb; omega) ⟨.int es.size, H1, I2.tok _, ⟨_, rfl⟩, ?_⟩
  rw [hn, hc]
  exact fin _ S1 m1 _ _ hR e1 rs1 rfl
end
end DL

set_option Elab.async false
set_option linter.all false
set_option maxRecDepth 100000
set_option maxHeartbeats 1000000
/-! DL11E: d.get(k, x), d.setdefault(k, x). -/
namespace DL
open PySem PySem.Spec PyProof.Rows L2
section
variable {W : Wd} {nm : Nm} {G : Nat → Option Phi} {C : Nat → Option Int} {k : Nat} {X : Cx} {c : Ck}
theorem putK_rep {m : Mp} {H : Hp} {key : Key} {d : D} {v : V} {kvs : List (Key × D)} {kws : List (Key × V)} (r : RepKs W.K m H kvs kws) (hv : RepV W.K m H d v) : RepKs W.K m H (putD kvs key d) (putK kws key v) := by
  obtain ⟨r1, r2⟩ := r
  have ha : ∀ {kvs : List (Key × D)} {kws : List (Key × V)}, kvs.map (·.1) = kws.map (·.1) → (kvs.any fun kv => decide (kv.1 = key)) = kws.any fun kv => decide (kv.1 = key) := fun {kvs kws} e => by
    have e1 : (kvs.any fun kv => decide (kv.1 = key)) = (kvs.map (·.1)).any fun x => decide (x = key) := by rw [List.any_map]; rfl
    have e2 : (kws.any fun kv => decide (kv.1 = key)) = (kws.map (·.1)).any fun x => decide (x = key) := by rw [List.any_map]; rfl
    rw [e1, e2, e]
  unfold putD putK
  rw [ha r1]
  split
  · have go : ∀ {kvs : List (Key × D)} {kws : List (Key × V)}, kvs.map (·.1) = kws.map (·.1) → RepVs W.K m H (kvs.map (·.2)) (kws.map (·.2)) →
        RepKs W.K m H (kvs.map fun kv => if kv.1 = key then (kv.1, d) else kv) (kws.map fun kv => if kv.1 = key then (kv.1, v) else kv) := by
      intro kvs
      induction kvs with
      | nil =>
        intro kws e r
        cases kws with
        | nil => exact ⟨rfl, RepVs.nil⟩
        | cons a l => cases e
      | cons p kvs ih =>
        intro kws e r
        cases kws with
        | nil => cases e
        | cons q kws =>
          rw [List.map_cons, List.map_cons] at e r
          obtain ⟨e1, e2⟩ := List.cons.inj e
          unfold RepVs at r
          obtain ⟨w, l, e3, q1, q2⟩ := r
          obtain ⟨rfl, rfl⟩ := List.cons.inj e3
          obtain ⟨i1, i2⟩ := ih e2 q2
          rw [List.map_cons, List.map_cons]
          have e1 : p.1 = q.1 := e1
          by_cases hk : p.1 = key
          · rw [if_pos hk, if_pos (e1.symm.trans hk)]
            exact ⟨by rw [List.map_cons, List.map_cons, i1]; simp [e1], RepVs.cons hv i2⟩
          · rw [if_neg hk, if_neg (fun z => hk (e1.trans z))]
            exact ⟨by rw [List.map_cons, List.map_cons, i1]; simp [e1], RepVs.cons q1 i2⟩
    exact go r1 r2
  · refine ⟨by rw [List.map_append, List.map_append, r1]; rfl, ?_⟩
    rw [List.map_append, List.map_append]
    exact r2.append (RepVs.cons hv RepVs.nil)
theorem m2_of {o e f : Expr} {m : Str} {apos cpos : Pos} (hn : notCall0 o = true) (hl : (apos.endLine == cpos.line) = true) (he : plainX e = true) (hf : plainX f = true) : M2 X o m apos e f cpos where
  base := base_plain hn m X.env _
  few := by rw [star_plain he, star_plain hf]; rfl
  line := hl
  trees := by rw [star_plain he, star_plain hf]; rfl
theorem c_get2 {r : MT2} {fd fe ff : FE} (B : BX W nm G C k X c) (h1 : r.m = ("get" : Str)) (hn : notCall0 r.o = true) (hl : (r.apos.endLine == r.pos.line) = true) (pe : plainX r.e = true) (pf : plainX r.f = true) (hd : PE X r.o (tD W fd)) (he : PE X r.e (tD W fe)) (hf : PE X r.f (tD W ff)) :
    PE X r.x (tD W fun ρ S R => fd ρ S fun y S1 => (∃ n l kvs, y = .ref n ∧ S1[n]? = some (.dct l kvs)) ∧ fe ρ S1 fun z S2 => ff ρ S2 fun w S3 => ∃ n l kvs key, y = .ref n ∧ S3[n]? = some (.dct l kvs) ∧ keyOf z = some key ∧ R ((lookD kvs key).getD w) S3) := by
  have hu : X.A.units + 1 < cLine := by have := B.room.un; omega
  show PE X (.Call (.Attribute r.o r.m r.apos) [r.e, r.f] [] r.pos) _
  rw [h1]
  refine pe_imp (pe_dget2 hu hd he hf (m2_of hn hl pe pf)) fun σ H Q h => ?_
  obtain ⟨ρ, S, m, R, rel, h, fin⟩ := h
  refine ⟨ρ, S, m, _, rel, h, fun y S1 m1 H1 v hR e1 r1 q1 => ?_⟩
  obtain ⟨⟨n, l, kvs, rfl, hS1⟩, hR⟩ := hR
  obtain ⟨a, kws, rfl, ha, g1, g2⟩ := keys_at r1 q1 hS1
  refine ⟨a, rfl, .inl ⟨kws, g1.rd⟩, ρ, S1, m1, _, rel.ext e1 r1, hR, fun z S2 m2 H2 v2 hR2 e2 r2 q2 => ?_⟩
  refine ⟨ρ, S2, m2, _, rel.ext (e1.tr r1 e2) r2, hR2, fun w S3 m3 H3 v3 hR3 e3 r3 q3 => ?_⟩
  obtain ⟨n', l', kvs', key, e, hS3, hkey, hfin⟩ := hR3
  cases e
  have q1' := (q1.ext e2).ext e3
  obtain ⟨a', kws', e, ha', g1', g2'⟩ := keys_at r3 q1' hS3
  cases e
  obtain rfl := key_rep hkey (q2.ext e3)
  refine ⟨_, dget_of g1'.rd, ?_⟩
  have et := e1.tr r1 (e2.tr r2 e3)
  have lk := look_rep (k := key) g2'.1 g2'.2
  cases hq : lookD kvs' key with
  | none =>
    rw [hq] at hfin
    rw [lk.2 hq]
    exact fin _ S3 m3 H3 _ hfin et r3 q3
  | some d =>
    rw [hq] at hfin
    obtain ⟨u, hu2, ru⟩ := lk.1 d hq
    rw [hu2]
    exact fin _ S3 m3 H3 _ hfin et r3 ru
theorem c_sdef {r : MT2} {fd fe ff : FE} (B : BX W nm G C k X c) (h1 : r.m = ("setdefault" : Str)) (hn : notCall0 r.o = true) (hl : (r.apos.endLine == r.pos.line) = true) (pe : plainX r.e = true) (pf : plainX r.f = true) (hd : PE X r.o (tD W fd)) (he : PE X r.e (tD W fe)) (hf : PE X r.f (tD W ff)) :
    PE X r.x (tD W fun ρ S R => fd ρ S fun y S1 => (∃ n l kvs, y = .ref n ∧ S1[n]? = some (.dct l kvs)) ∧ fe ρ S1 fun z S2 => ff ρ S2 fun w S3 => ∃ n kvs key, y = .ref n ∧ S3[n]? = some (.dct false kvs) ∧ keyOf z = some key ∧ kvs.length < sizeLine ∧
      (∀ v, lookD kvs key = some v → R v S3) ∧ (lookD kvs key = none → R w (S3.set n (.dct false (putD kvs key w))))) := by
  show PE X (.Call (.Attribute r.o r.m r.apos) [r.e, r.f] [] r.pos) _
  rw [h1]
  refine pe_imp (pe_dsetd hd he hf (m2_of hn hl pe pf)) fun σ H Q h => ?_
  obtain ⟨ρ, S, m, R, rel, h, fin⟩ := h
  refine ⟨ρ, S, m, _, rel, h, fun y S1 m1 H1 v hR e1 r1 q1 => ?_⟩
  obtain ⟨⟨n, l, kvs, rfl, hS1⟩, hR⟩ := hR
  obtain ⟨a, kws, rfl, ha, g1, g2⟩ := keys_at r1 q1 hS1
  refine ⟨a, rfl, .inl ⟨kws, g1.rd⟩, ρ, S1, m1, _, rel.ext e1 r1, hR, fun z S2 m2 H2 v2 hR2 e2 r2 q2 => ?_⟩
  refine ⟨ρ, S2, m2, _, rel.ext (e1.tr r1 e2) r2, hR2, fun w S3 m3 H3 v3 hR3 e3 r3 q3 => ?_⟩
  obtain ⟨n', kvs', key, e, hS3, hkey, hz, f1, f2⟩ := hR3
  cases e
  have q1' := (q1.ext e2).ext e3
  obtain ⟨a', kws', e, ha', g1', g2'⟩ := keys_at r3 q1' hS3
  cases e
  obtain rfl := key_rep hkey (q2.ext e3)
  have g1' : H3 a = some (.dK kws') := g1'
  have et := e1.tr r1 (e2.tr r2 e3)
  have lk := look_rep (k := key) g2'.1 g2'.2
  have hlen : kws'.length = kvs'.length := by have := congrArg List.length g2'.1; rw [List.length_map, List.length_map] at this; exact this.symm
  refine ⟨kws', key, g1', rfl, by rw [hlen]; exact hz, fun v hv => ?_, fun hv => ?_⟩
  · cases hq : lookD kvs' key with
    | none => rw [lk.2 hq] at hv; cases hv
    | some d =>
      obtain ⟨u, hu2, ru⟩ := lk.1 d hq
      rw [hu2] at hv
      cases hv
      exact fin _ S3 m3 H3 _ (f1 d hq) et r3 ru
  · have hq : lookD kvs' key = none := by
      cases hq : lookD kvs' key with
      | none => rfl
      | some d => obtain ⟨u, hu2, ru⟩ := lk.1 d hq; rw [hu2] at hv; cases hv
    have nf : ∀ o x, H3 a ≠ some (.frz o x) := fun o x z => by rw [g1'] at z; cases z
    have e4 := Ext.put r3 ha' nf (.dK (putK kws' key v3))
    exact fin _ _ m3 _ _ (f2 hq) (et.tr r3 e4) (r3.put ha' ⟨putK kws' key v3, upd_same, (putK_rep g2' q3).ext0 e4.z⟩) (q3.ext e4)
end
end DL

set_option Elab.async false
set_option linter.all false
set_option maxRecDepth 100000
set_option maxHeartbeats 1000000
/-! DL12: the soundness of expressions. -/
namespace DL
open PySem PySem.Spec PyProof.Rows L2
section
variable {W : Wd} {nm : Nm} {G : Nat → Option Phi} {C : Nat → Option Int} {k : Nat}
theorem chkEs_plain {c : Ck} : ∀ {es : Es} {xs : List Expr}, chkEs nm c es xs = true → xs.all plainX = true
  | .nil, [], _ => rfl
  | .cons e es, x :: xs, h => by
    unfold chkEs at h
    rw [Bool.and_eq_true, Bool.and_eq_true] at h
    rw [List.all_cons, h.1.1, chkEs_plain h.2]
    rfl
  | .nil, _ :: _, h => by unfold chkEs at h; cases h
  | .cons _ _, [], h => by unfold chkEs at h; cases h
theorem chkEs_nil {c : Ck} {es : Es} (h : chkEs nm c es [] = true) : es = .nil := by
  cases es with
  | nil => rfl
  | cons e es => unfold chkEs at h; cases h
/-- the context of a comprehension's block -/
theorem BX.blk {X : Cx} {c : Ck} (B : BX W nm G C k X c) (s : Shared) (H : Hp) (scope : Scope) (Ca : Addr) (cl : List (Str × Addr)) (fp : List Addr) (hk : scope.kind = .function) : BX W nm G C k (X.blk s H scope (compEnvC scope cl Ca X.env) fp) (c.blk scope) where
  K := B.K
  prog := B.prog
  w := B.w
  calm := B.calm
  nd := B.nd
  N := B.N
  sc := by show relS scope X.env.scope = relS scope c.sc; rw [B.sc]
  kind := hk
  st := fun x h => by
    have h : (isLocB (relS scope c.sc) x || (decide (scope.names.lookup x = some .cell) && decide ((relS scope c.sc).names.lookup x = some .cell))) = true := h
    show Loc (relS scope X.env.scope) x ∧ ((scope.names.lookup x == some .cell) = true ∨ (relS scope X.env.scope).names.lookup x = some .local)
    rw [B.sc]
    rw [Bool.or_eq_true, Bool.and_eq_true] at h
    rcases h with h | ⟨h1, h2⟩
    · have h := of_decide_eq_true h
      exact ⟨.inl h, .inr h⟩
    · have h1 := of_decide_eq_true h1
      have h2 := of_decide_eq_true h2
      exact ⟨.inr h2, .inl (by rw [h1]; rfl)⟩
  room := B.room
  po := PassesOwn.never
  T := B.T
  tl := fun h => B.tl h
  lm := fun h => B.lm h
/-- an expression is sound: as a value, as a test -/
structure OkE (W : Wd) (X : Cx) (x : Expr) (f : FE) : Prop where
  pe : PE X x (tD W f)
  pt : PT X x (tT W f)
  pw : ∀ o es pos, x = .BoolOp o es pos → PW X x (tT W f)
theorem OkE.val {X : Cx} {x : Expr} {f : FE} (h : PE X x (tD W f)) (ht : testX x = true) : OkE W X x f :=
  ⟨h, c_test h ht, fun o es pos e => by rw [e] at ht; cases ht⟩
theorem OkE.cmp {X : Cx} {x : Expr} {f : FE} (h : PE X x (tD W f)) (ht : PT X x (tT W f)) (hn : ∀ o es pos, x ≠ .BoolOp o es pos) : OkE W X x f :=
  ⟨h, ht, fun o es pos e => absurd e (hn o es pos)⟩
theorem w_one {X : Cx} {o : BoolOp} {a : Expr} {pos : Pos} {t : TT} (h : PT X a t) : PW X (.BoolOp o [a] pos) t := by
  cases o with
  | And => exact pw_and1 h
  | Or => exact pw_or1 h
/-- what lies in the lock is sound; so is the lock -/
theorem ok_lock {X : Cx} {x : Expr} {f : FE} (h : OkE W X x f) (hx : testX x = true ∨ True) : PE X x (tD W fun ρ S R => ∃ n o o', S[n]? = some o ∧ lockOb o = some o' ∧ f ρ (S.set n o') fun d S1 => S1[n]? = some o' ∧ R d (S1.set n o)) := c_lock h.pe
theorem tT_lock {f : FE} {X : Cx} {x : Expr} (h : PT X x (tT W f)) : PT X x (tT W fun ρ S R => ∃ n o o', S[n]? = some o ∧ lockOb o = some o' ∧ f ρ (S.set n o') fun d S1 => S1[n]? = some o' ∧ R d (S1.set n o)) := by
  refine ⟨fun pins s σ H Q I hw => ?_⟩
  obtain ⟨ρ, S, m, R, rel, ⟨n, o, o', hn, hl, h2⟩, fin⟩ := hw
  obtain ⟨a, u, ha, hu, mu, nf, go⟩ := lock_in rel hn hl
  obtain ⟨od, I1⟩ := I.lock hu mu
  obtain ⟨rel2, back⟩ := go od
  have h3 : tT W f σ (upd H a (.frz od u)) fun b H' => H' a = some (.frz od u) ∧ Q b (upd H' a u) := by
    refine ⟨ρ, _, m, _, rel2, h2, fun d S1 m1 H1 hR e1 r1 => ?_⟩
    obtain ⟨hf, e2, r2, e0⟩ := back S1 m1 H1 hR.1 e1 r1
    obtain ⟨k, hk, q⟩ := fin d _ m1 _ hR.2 e2 r2
    exact ⟨k, hk, hf, q⟩
  refine thn (h.run pins s σ _ _ I1 h3) fun v s1 ⟨H1, I2, e2, q⟩ => ?_
  exact ⟨_, I2.unlock e2 (I.nofrz hu mu), q⟩
theorem tW_lock {f : FE} {X : Cx} {x : Expr} (h : PW X x (tT W f)) : PW X x (tT W fun ρ S R => ∃ n o o', S[n]? = some o ∧ lockOb o = some o' ∧ f ρ (S.set n o') fun d S1 => S1[n]? = some o' ∧ R d (S1.set n o)) := by
  refine ⟨fun wh pins s σ H Q I hw => ?_⟩
  obtain ⟨ρ, S, m, R, rel, ⟨n, o, o', hn, hl, h2⟩, fin⟩ := hw
  obtain ⟨a, u, ha, hu, mu, nf, go⟩ := lock_in rel hn hl
  obtain ⟨od, I1⟩ := I.lock hu mu
  obtain ⟨rel2, back⟩ := go od
  have h3 : tT W f σ (upd H a (.frz od u)) fun b H' => H' a = some (.frz od u) ∧ Q b (upd H' a u) := by
    refine ⟨ρ, _, m, _, rel2, h2, fun d S1 m1 H1 hR e1 r1 => ?_⟩
    obtain ⟨hf, e2, r2, e0⟩ := back S1 m1 H1 hR.1 e1 r1
    obtain ⟨k, hk, q⟩ := fin d _ m1 _ hR.2 e2 r2
    exact ⟨k, hk, hf, q⟩
  refine thn (h.run wh pins s σ _ _ I1 h3) fun v s1 ⟨H1, I2, e2, q⟩ => ?_
  exact ⟨_, I2.unlock e2 (I.nofrz hu mu), q⟩
set_option maxHeartbeats 4000000 in
mutual
theorem okE : ∀ (e : E) {k : Nat} {X : Cx} {c : Ck} (B : BX W nm G C k X c) (x : Expr), chkE nm c e x = true → OkE W X x (evE G C e)
  | .v i, k, X, c, B, x, h => by
    obtain ⟨y, pos, rfl, h⟩ := inv_v h
    obtain ⟨h1, h3⟩ := and2 h
    obtain ⟨h1, h2⟩ := and2 h1
    exact .val (c_var B (of_decide_eq_true h1) h2 h3) rfl
  | .gl j, k, X, c, B, x, h => by
    obtain ⟨y, pos, rfl, h⟩ := inv_gl h
    obtain ⟨h1, h3⟩ := and2 h
    obtain ⟨h1, h2⟩ := and2 h1
    exact .val (c_gl B h1 (of_decide_eq_true h2) h3) rfl
  | .non, k, X, c, B, x, h => by
    obtain ⟨kk, pos, rfl, _⟩ := inv_non h
    exact .val (c_const pe_non fun _ _ _ => rfl) rfl
  | .bl b, k, X, c, B, x, h => by
    obtain ⟨b1, kk, pos, rfl, h⟩ := inv_bl h
    obtain rfl := of_decide_eq_true h
    exact .val (c_const pe_bl fun _ _ _ => rfl) rfl
  | .int b, k, X, c, B, x, h => by
    obtain ⟨b1, kk, pos, rfl, h⟩ := inv_int h
    obtain rfl := of_decide_eq_true h
    exact .val (c_const pe_int fun _ _ _ => rfl) rfl
  | .str b, k, X, c, B, x, h => by
    obtain ⟨b1, kk, pos, rfl, h⟩ := inv_str h
    obtain rfl := of_decide_eq_true h
    exact .val (c_const pe_str fun _ _ _ => rfl) rfl
  | .bin o a b, k, X, c, B, x, h => by
    obtain ⟨a1, o1, b1, pos, rfl, h⟩ := inv_bin h
    obtain ⟨h1, h3⟩ := and2 h
    obtain ⟨h1, h2⟩ := and2 h1
    obtain rfl := of_decide_eq_true h1
    exact .val (c_bin B (okE a B a1 h2).pe (okE b B b1 h3).pe) rfl
  | .neg a, k, X, c, B, x, h => by
    obtain ⟨a1, pos, rfl, h⟩ := inv_neg h
    exact .val (c_neg (okE a B a1 h).pe) rfl
  | .cmp o a b, k, X, c, B, x, h => by
    obtain ⟨a1, o1, b1, pos, rfl, h⟩ := inv_cmp h
    obtain ⟨h, h3⟩ := and2 h
    obtain ⟨h, h2⟩ := and2 h
    obtain ⟨h1, hp⟩ := and2 h
    obtain rfl := of_decide_eq_true h1
    exact .cmp (c_cmp B hp (okE a B a1 h2).pe (okE b B b1 h3).pe) (c_cmpT B hp (okE a B a1 h2).pe (okE b B b1 h3).pe) fun _ _ _ z => by cases z
  | .chain o o' a b d, k, X, c, B, x, h => by
    obtain ⟨a1, p, p', b1, d1, pos, rfl, h⟩ := inv_chain h
    obtain ⟨h, h4⟩ := and2 h
    obtain ⟨h, h3⟩ := and2 h
    obtain ⟨h, h2⟩ := and2 h
    obtain ⟨h, hp2⟩ := and2 h
    obtain ⟨h, hp⟩ := and2 h
    obtain ⟨h1, h1'⟩ := and2 h
    obtain rfl := of_decide_eq_true h1
    obtain rfl := of_decide_eq_true h1'
    exact .cmp (c_chain B hp2 (okE a B a1 h2).pe (okE b B b1 h3).pe (okE d B d1 h4).pe) (c_chainT B hp2 (okE a B a1 h2).pe (okE b B b1 h3).pe (okE d B d1 h4).pe) fun _ _ _ z => by cases z
  | .and a r, k, X, c, B, x, h => by
    obtain ⟨a1, b1, rest, pos, rfl, h⟩ := inv_and h
    obtain ⟨h1, h2⟩ := and2 h
    have ha := okE a B a1 h1
    have hr := okE r B _ h2
    have hw := w_and ha.pt (hr.pw _ _ _ rfl) (pos := pos)
    exact ⟨c_and ha.pe hr.pe, hw.pt, fun _ _ _ _ => hw⟩
  | .or a r, k, X, c, B, x, h => by
    obtain ⟨a1, b1, rest, pos, rfl, h⟩ := inv_or h
    obtain ⟨h1, h2⟩ := and2 h
    have ha := okE a B a1 h1
    have hr := okE r B _ h2
    have hw := w_or ha.pt (hr.pw _ _ _ rfl) (pos := pos)
    exact ⟨c_or ha.pe hr.pe, hw.pt, fun _ _ _ _ => hw⟩
  | .one a, k, X, c, B, x, h => by
    obtain ⟨o, a1, pos, rfl, h⟩ := inv_one h
    have ha := okE a B a1 h
    exact ⟨pe_one ha.pe, (w_one ha.pt).pt, fun _ _ _ _ => w_one ha.pt⟩
  | .not a, k, X, c, B, x, h => by
    obtain ⟨a1, pos, rfl, h⟩ := inv_not h
    have ha := okE a B a1 h
    exact .cmp (c_not ha.pe) (t_not ha.pt) fun _ _ _ z => by cases z
  | .ite t a b, k, X, c, B, x, h => by
    obtain ⟨t1, a1, b1, pos, rfl, h⟩ := inv_ite h
    obtain ⟨h, h3⟩ := and2 h
    obtain ⟨h1, h2⟩ := and2 h
    have ht := okE t B t1 h1
    have ha := okE a B a1 h2
    have hb := okE b B b1 h3
    exact .cmp (c_ite ht.pt ha.pe hb.pe) (t_ite ht.pt ha.pt hb.pt) fun _ _ _ z => by cases z
  | .tup es, k, X, c, B, x, h => by
    obtain ⟨xs, kk, pos, rfl, h⟩ := inv_tup h
    exact .val (c_tup (okEs es B xs h)) rfl
  | .lst es, k, X, c, B, x, h => by
    obtain ⟨xs, pos, rfl, h⟩ := inv_lst h
    exact .val (c_lst (okEs es B xs h)) rfl
  | .newl es, k, X, c, B, x, h => by
    obtain ⟨xs, pos, rfl, h⟩ := inv_newl h
    exact .val (c_newl (okEs es B xs h)) rfl
  | .newd, k, X, c, B, x, h => by
    obtain ⟨pos, rfl⟩ := inv_newd h
    exact .val c_newd rfl
  | .newn, k, X, c, B, x, h => by
    obtain ⟨pos, rfl⟩ := inv_newn h
    exact .val (c_newn B) rfl
  | .dk1 a b, k, X, c, B, x, h => by
    obtain ⟨a1, b1, pos, rfl, h⟩ := inv_dk1 h
    obtain ⟨h1, h2⟩ := and2 h
    exact .val (c_dk1 B (okE a B a1 h1).pe (okE b B b1 h2).pe) rfl
  | .dn1 a b, k, X, c, B, x, h => by
    obtain ⟨a1, b1, pos, rfl, h⟩ := inv_dn1 h
    obtain ⟨h1, h2⟩ := and2 h
    exact .val (c_dn1 B (okE a B a1 h1).pe (okE b B b1 h2).pe) rfl
  | .lock e, k, X, c, B, x, h => by
    have h : chkE nm c e x = true := h
    have ih := okE e B x h
    exact ⟨c_lock ih.pe, tT_lock ih.pt, fun o es pos z => tW_lock (ih.pw o es pos z)⟩
  | .ix a i, k, X, c, B, x, h => by
    obtain ⟨a1, i1, pos, rfl, h⟩ := inv_ix h
    obtain ⟨h, h3⟩ := and2 h
    obtain ⟨hp, h2⟩ := and2 h
    exact .val (c_ix B hp (okE a B a1 h2).pe (okE i B i1 h3).pe) rfl
  | .sl a lo hi, k, X, c, B, x, h => by
    obtain ⟨a1, lo1, hi1, p2, pos, rfl, h⟩ := inv_sl h
    obtain ⟨h, h3⟩ := and2 h
    obtain ⟨h1, h2⟩ := and2 h
    exact .val (c_sl B (okE a B a1 h1).pe (okO lo B lo1 h2) (okO hi B hi1 h3)) rfl
  | .call j es, k, X, c, B, x, h => by
    obtain ⟨y, p, xs, pos, rfl, h⟩ := inv_call h
    obtain ⟨h, h4⟩ := and2 h
    obtain ⟨h, h3⟩ := and2 h
    obtain ⟨h1, h2⟩ := and2 h
    refine .val (c_call B h1 (of_decide_eq_true h2) h3 (chkEs_plain h4) (fun z => ?_) (okEs es B xs h4)) rfl
    subst z
    rw [chkEs_nil h4]
    rfl
  | .bi b es, k, X, c, B, x, h => by
    obtain ⟨y, p, a1, xs, pos, rfl, h⟩ := inv_bi h
    obtain ⟨h, h3⟩ := and2 h
    obtain ⟨h1, h2⟩ := and2 h
    obtain rfl := of_decide_eq_true h2
    exact .val (c_bi B h1 (chkEs_plain h3) (okEs es B _ h3)) rfl
  | .isi a t, k, X, c, B, x, h => by
    obtain ⟨y, p, a1, z, p2, pos, rfl, h⟩ := inv_isi h
    obtain ⟨h, h6⟩ := and2 h
    obtain ⟨h, h5⟩ := and2 h
    obtain ⟨h, h4⟩ := and2 h
    obtain ⟨h, h3⟩ := and2 h
    obtain ⟨h1, h2⟩ := and2 h
    obtain rfl := of_decide_eq_true h2
    obtain rfl := of_decide_eq_true h4
    exact .val (c_isi B h1 h3 h5 (okE a B a1 h6).pe) rfl
  | .lrng a, k, X, c, B, x, h => by
    obtain ⟨y, p, z, p2, a1, pos2, pos, rfl, h⟩ := inv_lrng h
    obtain ⟨h, h6⟩ := and2 h
    obtain ⟨h, h5⟩ := and2 h
    obtain ⟨h, h4⟩ := and2 h
    obtain ⟨h, h3⟩ := and2 h
    obtain ⟨h1, h2⟩ := and2 h
    obtain rfl := of_decide_eq_true h2
    obtain rfl := of_decide_eq_true h4
    exact .val (c_lrng B h1 h3 h5 (okE a B a1 h6).pe) rfl
  | .told j e, k, X, c, B, x, h => by
    obtain ⟨y, p, body, scope, lp, pos, rfl, h⟩ := inv_told h
    obtain ⟨h, h7⟩ := and2 h
    obtain ⟨h, h6⟩ := and2 h
    obtain ⟨h, h5⟩ := and2 h
    obtain ⟨h, h4⟩ := and2 h
    obtain ⟨h, h3⟩ := and2 h
    obtain ⟨h1, h2⟩ := and2 h
    exact .val (c_told B h1 h2 (of_decide_eq_true h3) (of_decide_eq_true h4) h5 h6 fun X' k2 B' => (okE e B' body h7).pe) rfl
  | .fld cl a g, k, X, c, B, x, h => by
    obtain ⟨a1, g1, pos, rfl, h⟩ := inv_fld h
    obtain ⟨h, h4⟩ := and2 h
    obtain ⟨h, h3⟩ := and2 h
    obtain ⟨h1, h2⟩ := and2 h
    obtain rfl := of_decide_eq_true h1
    exact .val (c_fld B h2 (of_decide_eq_true h3) (okE a B a1 h4).pe) rfl
  | .make cl j es, k, X, c, B, x, h => by
    obtain ⟨y, p, xs, pos, rfl, h⟩ := inv_make h
    obtain ⟨h, h5⟩ := and2 h
    obtain ⟨h, h4⟩ := and2 h
    obtain ⟨h, h3⟩ := and2 h
    obtain ⟨h1, h2⟩ := and2 h
    obtain rfl := of_decide_eq_true h3
    refine .val (c_make B h1 (of_decide_eq_true h2) h4 (chkEs_plain h5) (fun z => ?_) (okEs es B xs h5)) rfl
    subst z
    rw [chkEs_nil h5]
    rfl
  | .meth cl j m a es, k, X, c, B, x, h => by
    obtain ⟨a1, y, apos, xs, pos, rfl, h⟩ := inv_meth h
    obtain ⟨h, h7⟩ := and2 h
    obtain ⟨h, h6⟩ := and2 h
    obtain ⟨h, h5⟩ := and2 h
    obtain ⟨h, h4⟩ := and2 h
    obtain ⟨h, h3⟩ := and2 h
    obtain ⟨h1, h2⟩ := and2 h
    obtain rfl := of_decide_eq_true h1
    refine .val (c_meth B h3 (of_decide_eq_true h2) h4 (of_decide_eq_true h5) (chkEs_plain h7) (fun z => ?_) (okE a B a1 h6).pe (okEs es B xs h7)) rfl
    subst z
    rw [chkEs_nil h7]
    rfl
  | .lc g it t elt own, k, X, c, B, x, h => by
    obtain ⟨elt1, tg, iter, ifs, as, scope, pos, rfl, h⟩ := inv_lc h
    obtain ⟨h, h11⟩ := and2 h
    obtain ⟨h, h10⟩ := and2 h
    obtain ⟨h, h9⟩ := and2 h
    obtain ⟨h, h8⟩ := and2 h
    obtain ⟨h, h7⟩ := and2 h
    obtain ⟨h, h6⟩ := and2 h
    obtain ⟨h, h5⟩ := and2 h
    obtain ⟨h, h4⟩ := and2 h
    obtain ⟨h, h3⟩ := and2 h
    obtain ⟨h1, h2⟩ := and2 h
    obtain rfl := of_decide_eq_true h1
    have ho := of_decide_eq_true h6
    have bk := blkOk_by h5
    rw [← B.N, ← B.sc] at bk
    have hs : ∀ i ∈ g.slots, i ∈ own := fun i hi => by
      have := List.all_eq_true.mp h7 i hi
      simpa using this
    have bb := fun (s : Shared) (H : Hp) (Ca : Addr) (cl : List (Str × Addr)) (fp : List Addr) => B.blk s H scope Ca cl fp bk.kind
    have q := pe_lc (pos := pos) (elt := elt1) (ifs := ifs) B.calm B.nd (okI it B iter tg h4 h8) bk (fun s H Ca cl fp => okG (bb s H Ca cl fp) g tg h9) (fun s H Ca cl fp => okT t (bb s H Ca cl fp) ifs h10) (fun s H Ca cl fp => (okE elt (bb s H Ca cl fp) elt1 h11).pe) (folded_plain h2 X.env)
    rw [B.N, ho] at q
    exact .val (pe_imp q fun σ H Q hh => lc_imp hs hh) rfl
  | .srtk a caps body, k, X, c, B, x, h => by
    have h : (match asKC x with
      | some r => isGlob c.sc r.n && decide (r.n = ("sorted" : Str)) && decide (r.y = ("key" : Str)) && plainX r.a && lam1B c r.z caps (frOf r.sc) r.sc && chkE nm c a r.a && chkE nm { N := r.z :: frOf r.sc, sc := r.sc, st := fun _ => false } body r.lb
      | none => false) = true := h
    cases hr : asKC x with
    | none => rw [hr] at h; cases h
    | some r =>
      rw [hr] at h
      obtain rfl := asKC_eq hr
      obtain ⟨h, h7⟩ := and2 h
      obtain ⟨h, h6⟩ := and2 h
      obtain ⟨h, h5⟩ := and2 h
      obtain ⟨h, h4⟩ := and2 h
      obtain ⟨h, h3⟩ := and2 h
      obtain ⟨h1, h2⟩ := and2 h
      exact .val (c_srtk B h1 (of_decide_eq_true h2) (of_decide_eq_true h3) h4 h5 (okE a B r.a h6).pe fun X' k2 B' => (okE body B' r.lb h7).pe) rfl
  | .srtr a caps body, k, X, c, B, x, h => by
    have hh : (match asKC x with
      | some r => match asC1 r.a with
        | some q => isGlob c.sc r.n && decide (r.n = ("sorted" : Str)) && isGlob c.sc q.n && decide (q.n = ("range" : Str)) && decide (r.y = ("key" : Str)) && plainX q.a && lam1B c r.z caps (frOf r.sc) r.sc && chkE nm c a q.a && chkE nm { N := r.z :: frOf r.sc, sc := r.sc, st := fun _ => false } body r.lb
        | none => false
      | none => false) = true := h
    clear h
    cases hr : asKC x with
    | none => rw [hr] at hh; cases hh
    | some r =>
      rw [hr] at hh
      obtain rfl := asKC_eq hr
      cases hq : asC1 r.a with
      | none => simp only [hq] at hh; cases hh
      | some q =>
        simp only [hq] at hh
        obtain ⟨h, h7⟩ := and2 hh
        obtain ⟨h, h6⟩ := and2 h
        obtain ⟨h, h5⟩ := and2 h
        obtain ⟨h, h4⟩ := and2 h
        obtain ⟨h, h3⟩ := and2 h
        obtain ⟨h, h2'⟩ := and2 h
        obtain ⟨h, h2⟩ := and2 h
        obtain ⟨h1, h1'⟩ := and2 h
        exact .val (c_srtr B (asC1_eq hq) h1 (of_decide_eq_true h1') h2 (of_decide_eq_true h2') (of_decide_eq_true h3) h4 h5 (okE a B q.a h6).pe fun X' k2 B' => (okE body B' r.lb h7).pe) rfl
  | .srts a, k, X, c, B, x, h => by
    have hh : (match asC1 x with
      | some r => match asC1 r.a with
        | some q => isGlob c.sc r.n && decide (r.n = ("sorted" : Str)) && isGlob c.sc q.n && decide (q.n = ("set" : Str)) && plainX q.a && chkE nm c a q.a
        | none => false
      | none => false) = true := h
    clear h
    cases hr : asC1 x with
    | none => rw [hr] at hh; cases hh
    | some r =>
      rw [hr] at hh
      obtain rfl := asC1_eq hr
      cases hq : asC1 r.a with
      | none => simp only [hq] at hh; cases hh
      | some q =>
        simp only [hq] at hh
        obtain ⟨h, h6⟩ := and2 hh
        obtain ⟨h, h5⟩ := and2 h
        obtain ⟨h, h4⟩ := and2 h
        obtain ⟨h, h3⟩ := and2 h
        obtain ⟨h1, h2⟩ := and2 h
        exact .val (c_srts B (asC1_eq hq) h1 (of_decide_eq_true h2) h3 (of_decide_eq_true h4) h5 (okE a B q.a h6).pe) rfl
  | .lens a, k, X, c, B, x, h => by
    have hh : (match asC1 x with
      | some r => match asC1 r.a with
        | some q => isGlob c.sc r.n && decide (r.n = ("len" : Str)) && isGlob c.sc q.n && decide (q.n = ("set" : Str)) && plainX q.a && chkE nm c a q.a
        | none => false
      | none => false) = true := h
    clear h
    cases hr : asC1 x with
    | none => rw [hr] at hh; cases hh
    | some r =>
      rw [hr] at hh
      obtain rfl := asC1_eq hr
      cases hq : asC1 r.a with
      | none => simp only [hq] at hh; cases hh
      | some q =>
        simp only [hq] at hh
        obtain ⟨h, h6⟩ := and2 hh
        obtain ⟨h, h5⟩ := and2 h
        obtain ⟨h, h4⟩ := and2 h
        obtain ⟨h, h3⟩ := and2 h
        obtain ⟨h1, h2⟩ := and2 h
        exact .val (c_lens B (asC1_eq hq) h1 (of_decide_eq_true h2) h3 (of_decide_eq_true h4) h5 (okE a B q.a h6).pe) rfl
  | .get2 d e f, k, X, c, B, x, h => by
    have h : (match asM2 x with
      | some r => decide (r.m = ("get" : Str)) && notCall0 r.o && (r.apos.endLine == r.pos.line) && plainX r.e && plainX r.f && chkE nm c d r.o && chkE nm c e r.e && chkE nm c f r.f
      | none => false) = true := h
    cases hr : asM2 x with
    | none => rw [hr] at h; cases h
    | some r =>
      rw [hr] at h
      obtain rfl := asM2_eq hr
      obtain ⟨h, h8⟩ := and2 h
      obtain ⟨h, h7⟩ := and2 h
      obtain ⟨h, h6⟩ := and2 h
      obtain ⟨h, h5⟩ := and2 h
      obtain ⟨h, h4⟩ := and2 h
      obtain ⟨h, h3⟩ := and2 h
      obtain ⟨h1, h2⟩ := and2 h
      exact .val (c_get2 B (of_decide_eq_true h1) h2 h3 h4 h5 (okE d B r.o h6).pe (okE e B r.e h7).pe (okE f B r.f h8).pe) rfl
  | .sdef d e f, k, X, c, B, x, h => by
    have h : (match asM2 x with
      | some r => decide (r.m = ("setdefault" : Str)) && notCall0 r.o && (r.apos.endLine == r.pos.line) && plainX r.e && plainX r.f && chkE nm c d r.o && chkE nm c e r.e && chkE nm c f r.f
      | none => false) = true := h
    cases hr : asM2 x with
    | none => rw [hr] at h; cases h
    | some r =>
      rw [hr] at h
      obtain rfl := asM2_eq hr
      obtain ⟨h, h8⟩ := and2 h
      obtain ⟨h, h7⟩ := and2 h
      obtain ⟨h, h6⟩ := and2 h
      obtain ⟨h, h5⟩ := and2 h
      obtain ⟨h, h4⟩ := and2 h
      obtain ⟨h, h3⟩ := and2 h
      obtain ⟨h1, h2⟩ := and2 h
      exact .val (c_sdef B (of_decide_eq_true h1) h2 h3 h4 h5 (okE d B r.o h6).pe (okE e B r.e h7).pe (okE f B r.f h8).pe) rfl
theorem okEs : ∀ (es : Es) {k : Nat} {X : Cx} {c : Ck} (B : BX W nm G C k X c) (xs : List Expr), chkEs nm c es xs = true → PA X xs (tDs W (evEs G C es))
  | .nil, k, X, c, B, xs, h => by
    cases xs with
    | nil => exact d_nil
    | cons x xs => unfold chkEs at h; cases h
  | .cons e es, k, X, c, B, xs, h => by
    cases xs with
    | nil => unfold chkEs at h; cases h
    | cons x xs =>
      have h : (plainX x && chkE nm c e x && chkEs nm c es xs) = true := h
      obtain ⟨h, h3⟩ := and2 h
      obtain ⟨h1, h2⟩ := and2 h
      exact d_cons h1 (okE e B x h2).pe (okEs es B xs h3)
theorem okO : ∀ (o : Oe) {k : Nat} {X : Cx} {c : Ck} (B : BX W nm G C k X c) (x : Option Expr), chkO nm c o x = true → PO X x (tO W (evO G C o))
  | .no, k, X, c, B, x, h => by
    cases x with
    | none => exact o_no
    | some x => unfold chkO at h; cases h
  | .yes e, k, X, c, B, x, h => by
    cases x with
    | none => unfold chkO at h; cases h
    | some x =>
      have h : chkE nm c e x = true := h
      exact o_yes (okE e B x h).pe
theorem okT : ∀ (o : Oe) {k : Nat} {X : Cx} {c : Ck} (B : BX W nm G C k X c) (xs : List Expr), chkT nm c o xs = true → PTs X xs (tTb W (evT G C o))
  | .no, k, X, c, B, xs, h => by
    cases xs with
    | nil => exact t_no
    | cons x xs => unfold chkT at h; cases h
  | .yes e, k, X, c, B, xs, h => by
    match xs, h with
    | [], h => unfold chkT at h; cases h
    | [x], h =>
      have h : chkE nm c e x = true := h
      exact t_yes (okE e B x h).pt
    | _ :: _ :: _, h => unfold chkT at h; cases h
theorem okI : ∀ (it : It) {k : Nat} {X : Cx} {c : Ck} (B : BX W nm G C k X c) (x tg : Expr), tupG it tg = true → chkI nm c it x = true → PI X tg x (tI W (evI G C it))
  | .val e, k, X, c, B, x, tg, _, h => i_val B (okE e B x h).pe
  | .rng1 a, k, X, c, B, x, tg, _, h => by
    obtain ⟨y, p, a1, pos, rfl, h⟩ := inv_rng1 h
    obtain ⟨h, h4⟩ := and2 h
    obtain ⟨h, h3⟩ := and2 h
    obtain ⟨h1, h2⟩ := and2 h
    obtain rfl := of_decide_eq_true h2
    exact i_rng1 B h1 h3 (okE a B a1 h4).pe
  | .rng2 a b, k, X, c, B, x, tg, _, h => by
    obtain ⟨y, p, a1, b1, pos, rfl, h⟩ := inv_rng2 h
    obtain ⟨h, h6⟩ := and2 h
    obtain ⟨h, h5⟩ := and2 h
    obtain ⟨h, h4⟩ := and2 h
    obtain ⟨h, h3⟩ := and2 h
    obtain ⟨h1, h2⟩ := and2 h
    obtain rfl := of_decide_eq_true h2
    exact i_rng2 B h1 h3 h4 (okE a B a1 h5).pe (okE b B b1 h6).pe
  | .enum a, k, X, c, B, x, tg, ht, h => by
    obtain ⟨y, p, a1, pos, rfl, h⟩ := inv_enum h
    obtain ⟨h, h4⟩ := and2 h
    obtain ⟨h, h3⟩ := and2 h
    obtain ⟨h1, h2⟩ := and2 h
    obtain rfl := of_decide_eq_true h2
    cases tg with
    | Tuple es kk tpos => exact i_enum B h1 h3 (okE a B a1 h4).pe
    | _ => have ht : false = true := ht; cases ht
  | .zip a b, k, X, c, B, x, tg, ht, h => by
    obtain ⟨y, p, a1, b1, pos, rfl, h⟩ := inv_zip h
    obtain ⟨h, h6⟩ := and2 h
    obtain ⟨h, h5⟩ := and2 h
    obtain ⟨h, h4⟩ := and2 h
    obtain ⟨h, h3⟩ := and2 h
    obtain ⟨h1, h2⟩ := and2 h
    obtain rfl := of_decide_eq_true h2
    cases tg with
    | Tuple es kk tpos => exact i_zip B h1 h3 h4 (okE a B a1 h5).pe (okE b B b1 h6).pe
    | _ => have ht : false = true := ht; cases ht
end
end
end DL

set_option Elab.async false
set_option linter.all false
set_option maxRecDepth 100000
set_option maxHeartbeats 1000000
/-! DL13: the soundness of statements, case by case. -/
namespace DL
open PySem PySem.Spec PyProof.Rows L2
/-- a statement's reading over data -/
def sD (W : Wd) (f : DE → Rho → Store → Prop) : TS := fun Dv σ H => ∃ (Q : DE) (ρ : Rho) (S : Store) (m : Mp), Rel W ρ S m σ H ∧ f Q ρ S ∧
  (∀ ρ' S' m' σ' H', Q.nx ρ' S' → Rel W ρ' S' m' σ' H' → Ext m H m' H' → Dv.nx σ' H') ∧
  (∀ d S' m' H' v, Q.rt d S' → Ext m H m' H' → RelS W S' m' H' → RepV W.K m' H' d v → Dv.rt v H') ∧
  (∀ ρ' S' m' σ' H', Q.bk ρ' S' → Rel W ρ' S' m' σ' H' → Ext m H m' H' → Dv.bk σ' H') ∧
  (∀ ρ' S' m' σ' H', Q.ct ρ' S' → Rel W ρ' S' m' σ' H' → Ext m H m' H' → Dv.ct σ' H')
theorem pss_imp {X : Cx} {e : List Stmt} {t t' : TS} (h : PSs X e t) (hi : ∀ Dv σ H, t' Dv σ H → t Dv σ H) : PSs X e t' := ⟨fun pins s σ H D I q => h.run pins s σ H D I (hi D σ H q)⟩
section
variable {W : Wd} {nm : Nm} {G : Nat → Option Phi} {C : Nat → Option Int} {k : Nat} {X : Cx} {c : Ck}
theorem s_nil : PSs X [] (sD W fun Q ρ S => Q.nx ρ S) := by
  refine pss_imp pss_nil fun Dv σ H h => ?_
  obtain ⟨Q, ρ, S, m, rel, h, f1, f2, f3, f4⟩ := h
  exact f1 ρ S m σ H h rel Ext.refl
theorem s_cons {st : Stmt} {sts : List Stmt} {f g : DE → Rho → Store → Prop} (h1 : PS X st (sD W f)) (h2 : PSs X sts (sD W g)) : PSs X (st :: sts) (sD W fun Q ρ S => f { Q with nx := fun ρ' S' => g Q ρ' S' } ρ S) := by
  refine pss_imp (pss_cons h1 h2) fun Dv σ H h => ?_
  obtain ⟨Q, ρ, S, m, rel, h, f1, f2, f3, f4⟩ := h
  refine ⟨{ Q with nx := fun ρ' S' => g Q ρ' S' }, ρ, S, m, rel, h, fun ρ1 S1 m1 σ1 H1 hn rel1 e1 => ?_, f2, f3, f4⟩
  exact ⟨Q, ρ1, S1, m1, rel1, hn, fun ρ' S' m' σ' H' q r e => f1 ρ' S' m' σ' H' q r (e1.tr rel1.st e), fun d S' m' H' v q e r qv => f2 d S' m' H' v q (e1.tr rel1.st e) r qv,
    fun ρ' S' m' σ' H' q r e => f3 ρ' S' m' σ' H' q r (e1.tr rel1.st e), fun ρ' S' m' σ' H' q r e => f4 ρ' S' m' σ' H' q r (e1.tr rel1.st e)⟩
theorem s_brk {pos : Pos} : PS X (.Break pos) (sD W fun Q ρ S => Q.bk ρ S) := by
  refine ps_imp ps_break fun Dv σ H h => ?_
  obtain ⟨Q, ρ, S, m, rel, h, f1, f2, f3, f4⟩ := h
  exact f3 ρ S m σ H h rel Ext.refl
theorem s_cont {pos : Pos} : PS X (.Continue pos) (sD W fun Q ρ S => Q.ct ρ S) := by
  refine ps_imp ps_continue fun Dv σ H h => ?_
  obtain ⟨Q, ρ, S, m, rel, h, f1, f2, f3, f4⟩ := h
  exact f4 ρ S m σ H h rel Ext.refl
theorem s_never {st : Stmt} : PS X st (sD W fun _ _ _ => False) := ⟨fun pins s σ H D I h => by obtain ⟨Q, ρ, S, m, rel, h, _⟩ := h; exact h.elim⟩
theorem s_ret {e : Expr} {f : FE} {pos : Pos} (h : PE X e (tD W f)) : PS X (.Return (some e) pos) (sD W fun Q ρ S => f ρ S Q.rt) := by
  refine ps_imp (ps_ret h) fun Dv σ H h => ?_
  obtain ⟨Q, ρ, S, m, rel, h, f1, f2, f3, f4⟩ := h
  exact ⟨ρ, S, m, _, rel, h, fun d S' m' H' v q e r qv => f2 d S' m' H' v q e r qv⟩
theorem s_ex {e : Expr} {f : FE} {pos : Pos} (hn : notLc e = true) (h : PE X e (tD W f)) : PS X (.Expr e pos) (sD W fun Q ρ S => f ρ S fun _ S1 => Q.nx ρ S1) := by
  refine ps_imp (ps_expr h (swaps_no hn none pos.line X.env)) fun Dv σ H h => ?_
  obtain ⟨Q, ρ, S, m, rel, h, f1, f2, f3, f4⟩ := h
  exact ⟨ρ, S, m, _, rel, h, fun d S' m' H' v q e r qv => f1 ρ S' m' σ H' q (rel.ext e r) e⟩
theorem s_if {t : Expr} {a b : List Stmt} {pos : Pos} {ft : FE} {fa fb : DE → Rho → Store → Prop} (ht : PT X t (tT W ft)) (ha : PSs X a (sD W fa)) (hb : PSs X b (sD W fb)) :
    PS X (.If t a b pos) (sD W fun Q ρ S => ft ρ S fun d S1 => boolP d fun k => if k = true then fa Q ρ S1 else fb Q ρ S1) := by
  refine ps_imp (ps_if ht ha hb) fun Dv σ H h => ?_
  obtain ⟨Q, ρ, S, m, rel, h, f1, f2, f3, f4⟩ := h
  refine ⟨ρ, S, m, _, rel, h, fun d S1 m1 H1 hR e1 r1 => ?_⟩
  obtain ⟨k, rfl, hk⟩ := boolP_inv hR
  have rest : ∀ {f : DE → Rho → Store → Prop}, f Q ρ S1 → sD W f Dv σ H1 := fun {f} hf =>
    ⟨Q, ρ, S1, m1, rel.ext e1 r1, hf, fun ρ' S' m' σ' H' q r e => f1 ρ' S' m' σ' H' q r (e1.tr r1 e), fun d S' m' H' v q e r qv => f2 d S' m' H' v q (e1.tr r1 e) r qv,
      fun ρ' S' m' σ' H' q r e => f3 ρ' S' m' σ' H' q r (e1.tr r1 e), fun ρ' S' m' σ' H' q r e => f4 ρ' S' m' σ' H' q r (e1.tr r1 e)⟩
  refine ⟨k, rfl, ?_⟩
  cases k with
  | true => simp only [if_true] at hk ⊢; exact rest hk
  | false => simp only [Bool.false_eq_true, if_false] at hk ⊢; exact rest hk
/-- a store behind a value -/
theorem asg_imp {g : Tg} {f : FE} {Dv : Ends} {σ : L2.St} {H : Hp} (h : sD W (fun Q ρ S => f ρ S fun d S1 => asgP g d ρ fun ρ' => Q.nx ρ' S1) Dv σ H) : tAsg (tD W f) (gD W g) Dv σ H := by
  obtain ⟨Q, ρ, S, m, rel, h, f1, f2, f3, f4⟩ := h
  refine ⟨ρ, S, m, _, rel, h, fun d S1 m1 H1 v hR e1 r1 qv => ?_⟩
  exact ⟨ρ, S1, m1, d, _, rel.ext e1 r1, qv, hR, fun ρ' σ' hR' rel' _ => f1 ρ' S1 m1 σ' H1 hR' rel' e1⟩
theorem s_asgN {i : Nat} {y : Str} {py pos : Pos} {value : Expr} {f : FE} (B : BX W nm G C k X c) (hn : notLc value = true) (h1 : decide (c.N[i]? = some y) = true) (h2 : c.st y = true) (h : PE X value (tD W f)) :
    PS X (.Assign [.Name y py] value pos) (sD W fun Q ρ S => f ρ S fun d S1 => asgP (.n i) d ρ fun ρ' => Q.nx ρ' S1) := by
  obtain ⟨hl, hf⟩ := B.st y h2
  refine ps_imp (ps_set (i := i) B.nd (by rw [B.N]; exact of_decide_eq_true h1) hl h (swaps_no hn _ _ X.env) hf) fun Dv σ H h => ?_
  obtain ⟨Q, ρ, S, m, rel, h, f1, f2, f3, f4⟩ := h
  refine ⟨ρ, S, m, _, rel, h, fun d S1 m1 H1 v hR e1 r1 qv => ?_⟩
  exact f1 _ S1 m1 _ H1 hR ((rel.ext e1 r1).set qv i) e1
theorem filterMap_lt {α β : Type} {f : α → Option β} : ∀ {l : List α} {a : α}, a ∈ l → f a = none → (l.filterMap f).length < l.length
  | b :: l, a, h, e => by
    rw [List.filterMap_cons]
    rcases List.mem_cons.mp h with z | z
    · rw [← z, e]
      exact Nat.lt_succ_of_le (List.length_filterMap_le _ _)
    · have := filterMap_lt z e
      split
      · exact Nat.lt_succ_of_lt this
      · rw [List.length_cons, List.length_cons]; exact Nat.succ_lt_succ this
theorem swNone_ok {ts : List Expr} {value : Expr} (B : BX W nm G C k X c) {kt : Nat} {pt : Pos} (h : swNone c ts value = true) : swappedStores [.Tuple ts kt pt] value X.env = pure none := by
  cases value with
  | Tuple vs k2 p2 =>
    have h : ((ts.any fun t => match t with | .Name id _ => !isLocB c.sc id | _ => true) || vs.all (foldedForSure 8)) = true := h
    unfold swappedStores
    simp only
    split
    · rfl
    split
    · rfl
    generalize hN : (ts.filterMap fun
        | .Name id pos => if X.env.kindOf id == some .local && pos.line == (ts.head?.map (·.pos.line)).getD 0 then some id else none
        | _ => none) = names
    split
    · rfl
    rename_i hlen
    rw [Bool.or_eq_true] at h
    rcases h with h | h
    · exfalso
      apply hlen
      rw [Bool.or_eq_true]
      left
      obtain ⟨t, ht, hb⟩ := List.any_eq_true.mp h
      have : names.length < ts.length := by
        rw [← hN]
        refine filterMap_lt ht ?_
        cases t with
        | Name id pos =>
          have hk : ¬ (X.env.kindOf id == some .local) = true := fun z => by
            have z : X.env.scope.names.lookup id = some .local := eq_of_beq z
            rw [B.sc] at z
            have hb : (!isLocB c.sc id) = true := hb
            unfold isLocB at hb
            rw [decide_eq_true z] at hb
            cases hb
          have : (X.env.kindOf id == some .local && pos.line == (ts.head?.map (·.pos.line)).getD 0) = false := by
            rw [Bool.and_eq_false_iff]; left; simpa using hk
          simp only [this, Bool.false_eq_true, if_false]
        | _ => rfl
      simp only [bne_iff_ne, ne_eq]
      omega
    · rw [if_pos h]
  | _ => exact stores_no (by rfl) X.env
theorem s_asgT {ts : List Expr} {kt : Nat} {pt pos : Pos} {value : Expr} {f : FE} {g : Tg} (B : BX W nm G C k X c) (hn : notLc value = true) (hw : swNone c ts value = true) (hg : PG X (.Tuple ts kt pt) (gD W g)) (h : PE X value (tD W f)) :
    PS X (.Assign [.Tuple ts kt pt] value pos) (sD W fun Q ρ S => f ρ S fun d S1 => asgP g d ρ fun ρ' => Q.nx ρ' S1) :=
  ps_imp (ps_asg h hg (show swapsWith value (some (.Tuple ts kt pt)) pos.line X.env = pure false from swaps_no hn _ _ X.env) (swNone_ok B hw)) fun Dv σ H h => asg_imp h
end
end DL

set_option Elab.async false
set_option linter.all false
set_option maxRecDepth 100000
set_option maxHeartbeats 1000000
/-! DL14: the soundness of statements: stores, loops. -/
namespace DL
open PySem PySem.Spec PyProof.Rows L2
section
variable {W : Wd} {nm : Nm} {G : Nat → Option Phi} {C : Nat → Option Int} {k : Nat} {X : Cx} {c : Ck}
/-- y = [..]: the name and the list are exchanged, or not -/
theorem s_asgL {i : Nat} {y : Str} {py lpos pos : Pos} {elt1 tg iter : Expr} {ifs : List Expr} {scope : Scope} {g : Tg} {it : It} {t : Oe} {elt : E} {own : List Nat} (B : BX W nm G C k X c)
    (h1 : decide (c.N[i]? = some y) = true) (h2 : c.st y = true) (h : chkE nm c (.lc g it t elt own) (.ListComp elt1 [⟨tg, iter, ifs, 0⟩] scope lpos) = true) :
    PS X (.Assign [.Name y py] (.ListComp elt1 [⟨tg, iter, ifs, 0⟩] scope lpos) pos) (sD W fun Q ρ S => evE G C (.lc g it t elt own) ρ S fun d S1 => asgP (.n i) d ρ fun ρ' => Q.nx ρ' S1) := by
  obtain ⟨hl, hf⟩ := B.st y h2
  have hN : X.N[i]? = some y := by rw [B.N]; exact of_decide_eq_true h1
  have hsw : swapsWith (.ListComp elt1 [⟨tg, iter, ifs, 0⟩] scope lpos) (some (.Name y py)) pos.line X.env = pure (swLc c y py (.ListComp elt1 [⟨tg, iter, ifs, 0⟩] scope lpos)) := by
    have hb : X.env.blockKind = .function := by unfold Env.blockKind; rw [B.kind]; rfl
    unfold swapsWith swLc isLocB
    simp only [hb, Expr.pos]
    have e : (X.env.kindOf y == some .local) = decide (c.sc.names.lookup y = some .local) := by
      show (X.env.scope.names.lookup y == some .local) = _
      rw [B.sc]
      rw [Bool.beq_eq_decide_eq]
    rw [e]
    rfl
  cases hs : swLc c y py (.ListComp elt1 [⟨tg, iter, ifs, 0⟩] scope lpos) with
  | false =>
    rw [hs] at hsw
    refine ps_imp (ps_set (i := i) B.nd hN hl (okE (.lc g it t elt own) B _ h).pe hsw hf) fun Dv σ H hh => ?_
    obtain ⟨Q, ρ, S, m, rel, hh, f1, f2, f3, f4⟩ := hh
    refine ⟨ρ, S, m, _, rel, hh, fun d S1 m1 H1 v hR e1 r1 qv => ?_⟩
    exact f1 _ S1 m1 _ H1 hR ((rel.ext e1 r1).set qv i) e1
  | true =>
    rw [hs] at hsw
    have hyl : X.env.scope.names.lookup y = some .local := by
      have hs : (isLocB c.sc y && (py.line == lpos.line) && !(scope.names.any fun (n, k) => n == y && (k == .local || k == .cell))) = true := hs
      rw [B.sc]
      exact of_decide_eq_true (and2 (and2 hs).1).1
    obtain ⟨elt2, tg2, iter2, ifs2, as2, scope2, pos2, he, h⟩ := inv_lc h
    cases he
    obtain ⟨h, h11⟩ := and2 h
    obtain ⟨h, h10⟩ := and2 h
    obtain ⟨h, h9⟩ := and2 h
    obtain ⟨h, h8⟩ := and2 h
    obtain ⟨h, h7⟩ := and2 h
    obtain ⟨h, h6⟩ := and2 h
    obtain ⟨h, h5⟩ := and2 h
    obtain ⟨h, h4⟩ := and2 h
    obtain ⟨h, h3⟩ := and2 h
    obtain ⟨_, hp⟩ := and2 h
    have ho := of_decide_eq_true h6
    have bk := blkOk_by h5
    rw [← B.N, ← B.sc] at bk
    have hs : ∀ i ∈ g.slots, i ∈ own := fun i hi => by
      have := List.all_eq_true.mp h7 i hi
      simpa using this
    have bb := fun (s : Shared) (H : Hp) (Ca : Addr) (cl : List (Str × Addr)) (fp : List Addr) => B.blk s H scope Ca cl fp bk.kind
    have q := ps_setLc (i := i) (pos := lpos) (spos := pos) (elt := elt1) (ifs := ifs) B.calm B.nd hN hyl hsw (okI it B iter tg h4 h8) bk (fun s H Ca cl fp => okG (bb s H Ca cl fp) g tg h9) (fun s H Ca cl fp => okT t (bb s H Ca cl fp) ifs h10) (fun s H Ca cl fp => (okE elt (bb s H Ca cl fp) elt1 h11).pe) (folded_plain hp X.env)
    rw [B.N, ho] at q
    refine ps_imp q fun Dv σ H hh => ?_
    refine lc_imp (fi := evI G C it) (ft := evT G C t) (fe := evE G C elt) hs (show tD W (evE G C (.lc g it t elt own)) σ H _ from ?_)
    obtain ⟨Q, ρ, S, m, rel, hh, f1, f2, f3, f4⟩ := hh
    refine ⟨ρ, S, m, _, rel, hh, fun d S1 m1 H1 v hR e1 r1 qv => ?_⟩
    exact f1 _ S1 m1 _ H1 hR ((rel.ext e1 r1).set qv i) e1
theorem s_par {i j : Nat} {x y : Str} {px py pt p2 pos : Pos} {kt k2 : Nat} {a b : Expr} {fa fb : FE} (B : BX W nm G C k X c) (hx : isLocB c.sc x = true) (hy : isLocB c.sc y = true) (h1 : decide (c.N[i]? = some x) = true) (h2 : decide (c.N[j]? = some y) = true) (hij : i ≠ j) (hxy : x ≠ y) (hl : px.line = py.line)
    (hf : (foldedForSure 8 a && foldedForSure 8 b) = false) (hc : (constantsAlone 8 a && constantsAlone 8 b) = false) (hpa : plainX a = true) (hpb : plainX b = true) (ha : PE X a (tD W fa)) (hb : PE X b (tD W fb)) :
    PS X (.Assign [.Tuple [.Name x px, .Name y py] kt pt] (.Tuple [a, b] k2 p2) pos) (sD W fun Q ρ S => fa ρ S fun x S1 => fb ρ S1 fun y S2 => Q.nx ((ρ.set i (some x)).set j (some y)) S2) := by
  have lx : X.env.scope.names.lookup x = some .local := by rw [B.sc]; exact of_decide_eq_true hx
  have ly : X.env.scope.names.lookup y = some .local := by rw [B.sc]; exact of_decide_eq_true hy
  have hw : swappedStores [.Tuple [.Name x px, .Name y py] kt pt] (.Tuple [a, b] k2 p2) X.env = pure (some [x, y]) := by
    have hbk : X.env.blockKind = .function := by unfold Env.blockKind; rw [B.kind]; rfl
    have kx : (X.env.kindOf x == some .local) = true := beq_iff_eq.mpr lx
    have ky : (X.env.kindOf y == some .local) = true := beq_iff_eq.mpr ly
    have hd : (([x, y] : List Str).eraseDups.length != ([x, y] : List Str).length) = false := by
      have hne : (y == x) = false := by rw [beq_eq_false_iff_ne]; exact Ne.symm hxy
      simp [List.eraseDups, List.eraseDupsBy, List.eraseDupsBy.loop, hne]
    unfold swappedStores
    simp only [List.length_cons, List.length_nil, hbk]
    rw [if_neg (by decide)]
    rw [if_neg (fun z => by
      obtain ⟨e, he, hz⟩ := List.any_eq_true.mp z
      have hp : plainX e = true := by
        rcases List.mem_cons.mp he with q | q
        · rw [q]; exact hpa
        · rw [List.mem_singleton.mp q]; exact hpb
      cases e <;> first | (cases hz; done) | (cases hp; done))]
    simp only [List.filterMap_cons, List.filterMap_nil, List.head?_cons, Option.map_some, Option.getD_some, Expr.pos, kx, ky, Bool.true_and, beq_self_eq_true, if_true, hl]
    simp only [List.length_cons, List.length_nil]
    rw [if_neg (by rw [show (([x, y] : List Str).eraseDups.length != 0 + 1 + 1) = false from hd]; decide)]
    have e1 : ([a, b].all (foldedForSure 8)) = false := by rw [List.all_cons, List.all_cons, List.all_nil, Bool.and_true]; exact hf
    have e2 : ([a, b].all (constantsAlone 8)) = false := by rw [List.all_cons, List.all_cons, List.all_nil, Bool.and_true]; exact hc
    rw [if_neg (by rw [e1]; decide), if_neg (by rw [e2]; decide)]
  refine ps_imp (ps_par (i := i) (j := j) B.calm B.nd (by rw [B.N]; exact of_decide_eq_true h1) (by rw [B.N]; exact of_decide_eq_true h2) hij lx ly (pa_cons ha (pa_cons hb pa_nil (star_plain hpb _ _)) (star_plain hpa _ _)) hw) fun Dv σ H hh => ?_
  obtain ⟨Q, ρ, S, m, rel, hh, f1, f2, f3, f4⟩ := hh
  refine ⟨ρ, S, m, _, rel, hh, fun d S1 m1 H1 v hR e1 r1 qv => ?_⟩
  refine ⟨ρ, S1, m1, _, rel.ext e1 r1, hR, fun d2 S2 m2 H2 v2 hR2 e2 r2 qv2 => ?_⟩
  exact ⟨v, v2, rfl, f1 _ S2 m2 _ H2 hR2 (((rel.ext (e1.tr r1 e2) r2).set (qv.ext e2) i).set qv2 j) (e1.tr r1 e2)⟩
theorem s_aug {i : Nat} {x : Str} {p pos : Pos} {o : Operator} {value : Expr} {f : FE} (B : BX W nm G C k X c) (ho : (decide (o = .Add) || decide (o = .Sub)) = true) (h1 : decide (c.N[i]? = some x) = true) (h2 : c.st x = true) (h : PE X value (tD W f)) :
    PS X (.AugAssign (.Name x p) o value pos) (sD W fun Q ρ S => rdP ρ i fun x => f ρ S fun y S1 => augP o x y fun z => Q.nx (ρ.set i (some z)) S1) := by
  obtain ⟨hl, hf⟩ := B.st x h2
  have hN : X.N[i]? = some x := by rw [B.N]; exact of_decide_eq_true h1
  have go : ∀ {fi : Int → Int → Int}, (∀ a b R, augP o a b R → ∃ i' j', a = .int i' ∧ b = .int j' ∧ R (.int (fi i' j'))) → ∀ (Dv : Ends) (σ : L2.St) (H : Hp), sD W (fun Q ρ S => rdP ρ i fun x => f ρ S fun y S1 => augP o x y fun z => Q.nx (ρ.set i (some z)) S1) Dv σ H → tAug i (tD W f) (ipI fi) Dv σ H := fun {fi} ha Dv σ H hh => by
    obtain ⟨Q, ρ, S, m, rel, hh, f1, f2, f3, f4⟩ := hh
    unfold rdP at hh
    split at hh
    · rename_i d hd
      obtain ⟨v, g1, g2⟩ := rel.val i d hd
      refine ⟨v, g1, ρ, S, m, _, rel, hh, fun d2 S1 m1 H1 v2 hR e1 r1 qv => ?_⟩
      obtain ⟨i', j', rfl, rfl, hR'⟩ := ha _ _ _ hR
      obtain rfl : v = .int i' := g2
      obtain rfl : v2 = .int j' := qv
      exact ⟨i', j', rfl, rfl, f1 _ S1 m1 _ H1 hR' ((rel.ext e1 r1).set (d := .int (fi i' j')) (v := .int (fi i' j')) rfl i) e1⟩
    · cases hh
  rw [Bool.or_eq_true] at ho
  rcases ho with ho | ho
  · obtain rfl := of_decide_eq_true ho
    refine ps_imp (ps_aug (i := i) B.nd hN hl h ip_add hf) (go fun a b R ha => ?_)
    unfold augP at ha
    split at ha
    · exact ⟨_, _, rfl, rfl, ha⟩
    · rename_i hz; cases hz
    · cases ha
  · obtain rfl := of_decide_eq_true ho
    refine ps_imp (ps_aug (i := i) B.nd hN hl h ip_sub hf) (go fun a b R ha => ?_)
    unfold augP at ha
    split at ha
    · rename_i hz; cases hz
    · exact ⟨_, _, rfl, rfl, ha⟩
    · cases ha
end
end DL

set_option Elab.async false
set_option linter.all false
set_option maxRecDepth 100000
set_option maxHeartbeats 1000000
/-! DL15: the soundness of statements: objects changed, loops; all together. -/
namespace DL
open PySem PySem.Spec PyProof.Rows L2
section
variable {W : Wd} {nm : Nm} {G : Nat → Option Phi} {C : Nat → Option Int} {k : Nat} {X : Cx} {c : Ck}
def rPut (W : Wd) : TSet := fun o i v H K => ∃ S m a z x P, RelS W S m H ∧ RepV W.K m H a o ∧ RepV W.K m H z i ∧ RepV W.K m H x v ∧ putP S a z x P ∧ ∀ S' H', P S' → Ext m H m H' → RelS W S' m H' → K H'
theorem set_put (B : BX W nm G C k X c) : PSet X (rPut W) := by
  intro pins s σ H o i v ov iv u Q I ro ri rv h
  obtain ⟨S, m, a, z, x, P, rs, qa, qz, qx, hP, fin⟩ := h
  have hu1 : X.A.units + 1 < cLine := by have := B.room.un; omega
  have hu9 : X.A.units + 9 < cLine := by have := B.room.un; omega
  cases a with
  | ref n =>
    dsimp only [putP] at hP
    split at hP
    · rename_i ds hn
      obtain ⟨kk, j, rfl, hj, hR⟩ := hP
      obtain ⟨p, hp, rfl⟩ := qa
      obtain ⟨vs, h1, h2⟩ := rs.ob n _ p hn hp
      obtain rfl : i = .int kk := qz
      have nf : ∀ o x, H p ≠ some (.frz o x) := fun o x z => by rw [h1] at z; cases z
      have e := Ext.put rs hp nf (.lst (vs.set j v))
      refine set_list pins s σ H _ _ v ov iv u Q I ro ri rv ⟨p, vs, kk, j, rfl, rfl, h1, by rw [h2.length]; exact hj, ?_⟩
      exact fin _ _ hR e (rs.put hp ⟨vs.set j v, upd_same, (RepVs.set qx j h2).ext e⟩)
    · rename_i kvs hn
      obtain ⟨key, hk, hz, hR⟩ := hP
      obtain ⟨p, kws, rfl, hp, h1, h2⟩ := keys_at rs qa hn
      have h1 : H p = some (.dK kws) := h1
      obtain rfl := key_rep hk qz
      have hl : kws.length = kvs.length := by have := congrArg List.length h2.1; rw [List.length_map, List.length_map] at this; exact this.symm
      have nf : ∀ o x, H p ≠ some (.frz o x) := fun o x z => by rw [h1] at z; cases z
      have e := Ext.put rs hp nf (.dK (putK kws key v))
      refine set_dict hu1 pins s σ H _ _ v ov iv u Q I ro ri rv ⟨p, _, rfl, DPut.k h1 (by rw [hl]; exact hz), ?_⟩
      exact fin _ _ hR e (rs.put hp ⟨putK kws key v, upd_same, (putK_rep h2 qx).ext0 e.z⟩)
    · rename_i kvs hn
      obtain ⟨key, hk, hz, hR⟩ := hP
      obtain ⟨p, xs, rfl, hp, h1, h2⟩ := nkeys_at rs qa hn
      have h1 : H p = some (NDic W.P W.w p xs) := h1
      obtain ⟨b, rfl, hb⟩ := key_is B.K B.prog B.w I hk qz
      obtain rfl : ov = Value.ref p := ro
      obtain rfl : iv = Value.ref b := ri
      have nf : ∀ o x, H p ≠ some (.frz o x) := fun o x z => by rw [h1] at z; unfold NDic at z; cases z
      have e := Ext.put rs hp nf (NDic W.P W.w p (putX xs key b v))
      obtain ⟨_, hk1, hk2⟩ := keyN_of hk
      have hkr : RepV W.K m H (unNK key) (.ref b) := by rw [toNK_un _ _ hk1]; exact qz
      refine n_put B.K B.prog B.w hu9 I h1 h2 hb hz rv fun s' I' => ⟨_, I', ?_⟩
      exact fin _ _ hR e (rs.put hp ⟨putX xs key b v, upd_same, (putX_rep h2 hkr hk2 qx).ext0 e.z⟩)
    · cases hP
  | _ => cases hP
theorem s_put {a i value : Expr} {p2 pos : Pos} {fa fi fv : FE} (B : BX W nm G C k X c) (hn : notLc value = true) (hp : plainX i = true) (ha : PE X a (tD W fa)) (hi : PE X i (tD W fi)) (hv : PE X value (tD W fv)) :
    PS X (.Assign [.Subscript a i p2] value pos) (sD W fun Q ρ S => fv ρ S fun x S1 => fa ρ S1 fun y S2 => fi ρ S2 fun z S3 => putP S3 y z x fun S4 => Q.nx ρ S4) := by
  refine ps_imp (ps_asg hv (pg_sub ha hi (set_put B) (asg_sub hp)) (show swapsWith value (some (.Subscript a i p2)) pos.line X.env = pure false from swaps_no hn _ _ X.env) rfl) fun Dv σ H hh => ?_
  obtain ⟨Q, ρ, S, m, rel, hh, f1, f2, f3, f4⟩ := hh
  refine ⟨ρ, S, m, _, rel, hh, fun x S1 m1 H1 v hR e1 r1 qx => ?_⟩
  refine ⟨ρ, S1, m1, _, rel.ext e1 r1, hR, fun y S2 m2 H2 w hR2 e2 r2 qy => ?_⟩
  refine ⟨ρ, S2, m2, _, rel.ext (e1.tr r1 e2) r2, hR2, fun z S3 m3 H3 w3 hR3 e3 r3 qz => ?_⟩
  refine ⟨S3, m3, y, z, x, _, r3, qy.ext e3, qz, (qx.ext e2).ext e3, hR3, fun S' H' hn e r => ?_⟩
  have et := (e1.tr r1 (e2.tr r2 (e3.tr r3 e)))
  exact f1 _ S' m3 σ H' hn (rel.ext et r) et
theorem putF_rep {m : Mp} {H : Hp} {f : Str} {d : D} {v : V} (hv : RepV W.K m H d v) : ∀ {fs : List (Str × D)} {ws : List (Str × V)}, RepFs W.K m H fs ws → RepFs W.K m H (putFD f d fs) (putF f v ws)
  | [], [], _ => ⟨rfl, RepVs.cons hv RepVs.nil⟩
  | [], _ :: _, h => nomatch h.1
  | _ :: _, [], h => nomatch h.1
  | (g, x) :: fs, (g', y) :: ws, h => by
    obtain ⟨h1, h2⟩ := h
    rw [List.map_cons, List.map_cons] at h1 h2
    obtain ⟨e1, e2⟩ := List.cons.inj h1
    obtain rfl : g = g' := e1
    unfold RepVs at h2
    obtain ⟨v', r, e3, q1, q2⟩ := h2
    obtain ⟨rfl, rfl⟩ := List.cons.inj e3
    unfold putFD putF
    show RepFs W.K m H (if g = f then (f, d) :: fs else (g, x) :: putFD f d fs) _
    by_cases hg : g = f
    · rw [if_pos hg, if_pos hg]
      refine ⟨?_, RepVs.cons hv q2⟩
      rw [List.map_cons, List.map_cons]
      rw [show ((f, d) : Str × D).1 = ((g, v) : Str × V).1 from hg.symm, e2]
    · rw [if_neg hg, if_neg hg]
      obtain ⟨i1, i2⟩ := putF_rep (f := f) hv (fs := fs) (ws := ws) ⟨e2, q2⟩
      refine ⟨?_, RepVs.cons q1 i2⟩
      rw [List.map_cons, List.map_cons, i1]
theorem s_setf {cl : Nat} {a value : Expr} {g : Str} {p2 pos : Pos} {fa fv : FE} (B : BX W nm G C k X c) (hn : notLc value = true) (hg : g ∈ nm.f cl) (ha : PE X a (tD W fa)) (hv : PE X value (tD W fv)) :
    PS X (.Assign [.Attribute a g p2] value pos) (sD W fun Q ρ S => fv ρ S fun y S1 => fa ρ S1 fun x S2 => ∃ n fs, x = .ref n ∧ S2[n]? = some (.ins cl fs) ∧ fs.length < 1000 ∧ Q.nx ρ (S2.set n (.ins cl (putFD g y fs)))) := by
  refine ps_imp (ps_fld ha hv (swaps_no hn _ _ X.env)) fun Dv σ H hh => ?_
  obtain ⟨Q, ρ, S, m, rel, hh, f1, f2, f3, f4⟩ := hh
  refine ⟨ρ, S, m, _, rel, hh, fun y S1 m1 H1 v hR e1 r1 qy => ?_⟩
  refine ⟨ρ, S1, m1, _, rel.ext e1 r1, hR, fun x S2 m2 H2 w hR2 e2 r2 qx => ?_⟩
  obtain ⟨n, fs, rfl, hn, hl, hR2⟩ := hR2
  obtain ⟨p, hp, rfl⟩ := qx
  obtain ⟨ca, dx, ws, hca, hH, rf⟩ := r2.ob n _ p hn hp
  have hlen : ws.length = fs.length := by have := congrArg List.length rf.1; rw [List.length_map, List.length_map] at this; exact this.symm
  have nf : ∀ o x, H2 p ≠ some (.frz o x) := fun o x z => by rw [hH] at z; cases z
  have e3 := Ext.put r2 hp nf (.ins ca dx (putF g v ws))
  refine ⟨p, ca, dx, ws, rfl, hH, by rw [B.K]; exact B.T.cls cl ca hca, by rw [B.K]; exact B.T.nof cl ca hca g hg, by rw [hlen]; exact hl, ?_⟩
  have r3 : RelS W (S2.set n (.ins cl (putFD g y fs))) m2 (upd H2 p (.ins ca dx (putF g v ws))) := r2.put hp ⟨ca, dx, _, hca, upd_same, (putF_rep (qy.ext e2) rf).ext0 e3.z⟩
  have et := (e1.tr r1 (e2.tr r2 e3))
  exact f1 _ _ m2 σ _ hR2 (rel.ext et r3) et
theorem s_app {a e : Expr} {apos cpos pos : Pos} {fa fe : FE} (B : BX W nm G C k X c) (hn : notCall0 a = true) (hl : (apos.endLine == cpos.line) = true) (hp : plainX e = true) (ha : PE X a (tD W fa)) (he : PE X e (tD W fe)) :
    PS X (.Expr (.Call (.Attribute a "append" apos) [e] [] cpos) pos) (sD W fun Q ρ S => fa ρ S fun y S1 => ∃ n ds0, y = .ref n ∧ S1[n]? = some (.lst ds0) ∧ fe ρ S1 fun x S2 => ∃ ds, S2[n]? = some (.lst ds) ∧ ds.length < sizeLine ∧ Q.nx ρ (S2.set n (.lst (ds ++ [x])))) := by
  have hfew : ((backTo cpos (starEach [e] X.env)).all (fun x => !x.1) && (backToKw cpos (keywordEach [] X.env)).all (fun x => x.1.isSome)
      && decide (([e] : List Expr).length + ([] : List Keyword).length + (if ([] : List Keyword).isEmpty then 0 else 1) < 30)) = true := by
    rw [star_plain hp]; rfl
  have hpe := pe_bm (cpos := cpos) (apos := apos) F.plainAttrs_list F.slot_list_append F.type_list_append (mt_append (X := X)) ha (pa_cons he pa_nil (star_plain hp _ _)) (base_plain hn _ X.env _) hfew hl (star_plain hp _ _) rfl
  refine ps_imp (ps_expr hpe (swaps_no rfl none pos.line X.env)) fun Dv σ H hh => ?_
  obtain ⟨Q, ρ, S, m, rel, hh, f1, f2, f3, f4⟩ := hh
  refine ⟨ρ, S, m, _, rel, hh, fun y S1 m1 H1 v hR e1 r1 qy => ?_⟩
  obtain ⟨n, ds0, rfl, hn1, hR⟩ := hR
  obtain ⟨p, hp1, rfl⟩ := qy
  obtain ⟨vs0, g1, g2⟩ := r1.ob n _ p hn1 hp1
  refine ⟨.inl ⟨rfl, vs0, SqL.of g1⟩, ρ, S1, m1, _, rel.ext e1 r1, hR, fun x S2 m2 H2 w hR2 e2 r2 qx => ?_⟩
  obtain ⟨ds, hn2, hz, hR2⟩ := hR2
  have hp2 : m2.ad[n]? = some p := pre_get e2.pre hp1
  obtain ⟨vs, g3, g4⟩ := r2.ob n _ p hn2 hp2
  have nf : ∀ o x, H2 p ≠ some (.frz o x) := fun o x z => by rw [g3] at z; cases z
  have e3 := Ext.put r2 hp2 nf (.lst (vs ++ [w]))
  refine ⟨p, vs, w, rfl, rfl, g3, by rw [g4.length]; exact hz, ?_⟩
  have r3 : RelS W (S2.set n (.lst (ds ++ [x]))) m2 (upd H2 p (.lst (vs ++ [w]))) := r2.put hp2 ⟨_, upd_same, (g4.append (RepVs.cons qx RepVs.nil)).ext e3⟩
  have et := (e1.tr r1 (e2.tr r2 e3))
  exact f1 _ _ m2 σ _ hR2 (rel.ext et r3) et
theorem s_for {tg iter : Expr} {body : List Stmt} {pos : Pos} {g : Tg} {fi : FI} {fb : DE → Rho → Store → Prop} (B : BX W nm G C k X c) (hp : plainX iter = true) (hi : PI X tg iter (tI W fi)) (hg : PG X tg (gD W g)) (hb : PSs X body (sD W fb)) :
    PS X (.For tg iter body [] pos) (sD W fun Q ρ S => fi ρ S fun ds Src S1 =>
      forP (fun d ρ' S2 K => asgP g d ρ' fun ρ'' => fb { nx := K, ct := K, bk := Q.nx, rt := Q.rt } ρ'' S2) Src Q.nx ds ρ S1) := by
  refine ps_imp (ps_for B.po B.calm hi hg hb (folded_plain hp X.env)) fun Dv σ H hh => ?_
  obtain ⟨Q, ρ, S, m, rel, hh, f1, f2, f3, f4⟩ := hh
  refine ⟨ρ, S, m, _, rel, hh, fun ds Src S1 m1 H1 J hM e1 r1 itd => ?_⟩
  refine ⟨fun i μ σ' Hc => ∃ ρ' Sc mc, μ = ds.length - i ∧ i ≤ ds.length ∧ Rel W ρ' Sc mc σ' Hc ∧ Ext m1 H1 mc Hc ∧
    forP (fun d ρ' S2 K => asgP g d ρ' fun ρ'' => fb { nx := K, ct := K, bk := Q.nx, rt := Q.rt } ρ'' S2) Src Q.nx (ds.drop i) ρ' Sc, ⟨ds.length, ρ, S1, m1, by simp, Nat.zero_le _, rel.ext e1 r1, Ext.refl, by rw [List.drop_zero]; exact hM⟩, ?_⟩
  rintro i μ σ' Hc ⟨ρ', Sc, mc, rfl, hi', relc, ec, hF⟩
  by_cases hlt : i < ds.length
  · have hd : ds[i]? = some ds[i] := List.getElem?_eq_getElem hlt
    rw [List.drop_eq_getElem_cons hlt] at hF
    obtain ⟨hS, hturn⟩ := hF
    refine .inr ⟨itd.go i Sc mc Hc relc.st ec hS hlt, fun σn Hn => ∃ ρ' Sc mc, i + 1 ≤ ds.length ∧ Rel W ρ' Sc mc σn Hn ∧ Ext m1 H1 mc Hn ∧
      forP (fun d ρ' S2 K => asgP g d ρ' fun ρ'' => fb { nx := K, ct := K, bk := Q.nx, rt := Q.rt } ρ'' S2) Src Q.nx (ds.drop (i + 1)) ρ' Sc, fun σn Hn hN => ?_, fun x Hy hy => ?_⟩
    · obtain ⟨ρ2, S2, m2, z⟩ := hN
      exact ⟨ds.length - (i + 1), by omega, ρ2, S2, m2, rfl, z⟩
    · obtain ⟨d, hd2, qx, ey, ry⟩ := itd.yld i Sc mc Hc x Hy relc.st ec hS hlt hy
      rw [hd] at hd2
      obtain rfl := Option.some.inj hd2
      have ecy := ec.tr relc.st ey
      refine ⟨ρ', Sc, mc, _, _, relc.ext ey ry, qx, hturn, fun ρ2 σ2 hR2 rel2 _ => ?_⟩
      refine ⟨_, ρ2, Sc, mc, rel2, hR2, fun ρ3 S3 m3 σ3 H3 q r e => ?_, fun d S3 m3 H3 v q e r qv => ?_, fun ρ3 S3 m3 σ3 H3 q r e => ?_, fun ρ3 S3 m3 σ3 H3 q r e => ?_⟩
      · exact ⟨ρ3, S3, m3, by omega, r, ecy.tr ry e, q⟩
      · exact f2 d S3 m3 H3 v q (e1.tr r1 (ecy.tr ry e)) r qv
      · exact f1 ρ3 S3 m3 σ3 H3 q r (e1.tr r1 (ecy.tr ry e))
      · exact ⟨ρ3, S3, m3, by omega, r, ecy.tr ry e, q⟩
  · have hi2 : i = ds.length := by omega
    subst hi2
    rw [List.drop_length] at hF
    obtain ⟨hS, hR⟩ := hF
    exact .inl ⟨itd.stop _ Sc mc Hc relc.st ec hS (Nat.le_refl _), f1 ρ' Sc mc σ' Hc hR relc (e1.tr r1 ec)⟩
theorem s_while {t : Expr} {body : List Stmt} {pos : Pos} {ft : FE} {fb : DE → Rho → Store → Prop} (B : BX W nm G C k X c) (ht : PT X t (tT W ft)) (hb : PSs X body (sD W fb)) :
    PS X (.While t body [] pos) (sD W fun Q ρ S => ∃ Wh : Nat → Rho → Store → Prop, (∃ m, Wh m ρ S) ∧ ∀ m ρ S, Wh m ρ S → ft ρ S fun d S1 => boolP d fun k =>
      if k = true then fb { nx := fun ρ' S' => ∃ m', m' < m ∧ Wh m' ρ' S', ct := fun ρ' S' => ∃ m', m' < m ∧ Wh m' ρ' S', bk := Q.nx, rt := Q.rt } ρ S1 else Q.nx ρ S1) := by
  refine ps_imp (ps_while B.po ht hb) fun Dv σ H hh => ?_
  obtain ⟨Q, ρ, S, m, rel, ⟨Wh, ⟨n0, w0⟩, turn⟩, f1, f2, f3, f4⟩ := hh
  refine ⟨fun μ σ' Hc => ∃ ρ' Sc mc, Wh μ ρ' Sc ∧ Rel W ρ' Sc mc σ' Hc ∧ Ext m H mc Hc, ⟨n0, ρ, S, m, w0, rel, Ext.refl⟩, ?_⟩
  rintro μ σ' Hc ⟨ρ', Sc, mc, hw, relc, ec⟩
  refine ⟨ρ', Sc, mc, _, relc, turn μ ρ' Sc hw, fun d S1 m1 H1 hR e1 r1 => ?_⟩
  obtain ⟨kk, rfl, hk⟩ := boolP_inv hR
  refine ⟨kk, rfl, ?_⟩
  have ec1 := ec.tr relc.st e1
  cases kk with
  | false => simp only [Bool.false_eq_true, if_false] at hk ⊢; exact f1 ρ' S1 m1 σ' H1 hk (relc.ext e1 r1) ec1
  | true =>
    simp only [if_true] at hk ⊢
    refine ⟨fun σn Hn => ∃ μ', μ' < μ ∧ ∃ ρ' Sc mc, Wh μ' ρ' Sc ∧ Rel W ρ' Sc mc σn Hn ∧ Ext m H mc Hn, fun σn Hn hN => hN, ?_⟩
    refine ⟨_, ρ', S1, m1, relc.ext e1 r1, hk, fun ρ3 S3 m3 σ3 H3 q r e => ?_, fun d S3 m3 H3 v q e r qv => ?_, fun ρ3 S3 m3 σ3 H3 q r e => ?_, fun ρ3 S3 m3 σ3 H3 q r e => ?_⟩
    · obtain ⟨m', hm, w'⟩ := q
      exact ⟨m', hm, ρ3, S3, m3, w', r, ec1.tr r1 e⟩
    · exact f2 d S3 m3 H3 v q (ec1.tr r1 e) r qv
    · exact f1 ρ3 S3 m3 σ3 H3 q r (ec1.tr r1 e)
    · obtain ⟨m', hm, w'⟩ := q
      exact ⟨m', hm, ρ3, S3, m3, w', r, ec1.tr r1 e⟩
theorem s_lock {st : Stmt} {f : DE → Rho → Store → Prop} (h : PS X st (sD W f)) : PS X st (sD W fun Q ρ S => ∃ n o o', S[n]? = some o ∧ lockOb o = some o' ∧
    f { nx := fun ρ' S1 => S1[n]? = some o' ∧ Q.nx ρ' (S1.set n o), rt := fun d S1 => S1[n]? = some o' ∧ Q.rt d (S1.set n o), bk := fun ρ' S1 => S1[n]? = some o' ∧ Q.bk ρ' (S1.set n o), ct := fun ρ' S1 => S1[n]? = some o' ∧ Q.ct ρ' (S1.set n o) } ρ (S.set n o')) := by
  refine ps_imp (ps_lock h) fun Dv σ H hh => ?_
  obtain ⟨Q, ρ, S, m, rel, ⟨n, o, o', hn, hl, hh⟩, f1, f2, f3, f4⟩ := hh
  obtain ⟨a, u, ha, hu, mu, _, go⟩ := lock_in rel hn hl
  refine ⟨a, u, hu, mu, fun od => ?_⟩
  obtain ⟨rel2, back⟩ := go od
  have un : ∀ {ρ' : Rho} {S1 : Store} {m1 : Mp} {σ1 : L2.St} {H1 : Hp}, S1[n]? = some o' → Rel W ρ' S1 m1 σ1 H1 → Ext m (upd H a (.frz od u)) m1 H1 → H1 a = some (.frz od u) ∧ Ext m H m1 (upd H1 a u) ∧ Rel W ρ' (S1.set n o) m1 σ1 (upd H1 a u) := fun {ρ' S1 m1 σ1 H1} h1 r e => by
    obtain ⟨hf, e2, r2, e0⟩ := back S1 m1 H1 h1 e r.st
    exact ⟨hf, e2, r.len, fun i d hd => let ⟨v, g1, g2⟩ := r.val i d hd; ⟨v, g1, g2.ext0 e0⟩, r2⟩
  refine ⟨_, ρ, _, m, rel2, hh, fun ρ3 S3 m3 σ3 H3 q r e => ?_, fun d S3 m3 H3 v q e r qv => ?_, fun ρ3 S3 m3 σ3 H3 q r e => ?_, fun ρ3 S3 m3 σ3 H3 q r e => ?_⟩
  · obtain ⟨hf, e2, r2⟩ := un q.1 r e
    exact ⟨hf, f1 ρ3 _ m3 σ3 _ q.2 r2 e2⟩
  · obtain ⟨hf, e2, r2, e0⟩ := back S3 m3 H3 q.1 e r
    exact ⟨hf, f2 d _ m3 _ v q.2 e2 r2 (qv.ext0 e0)⟩
  · obtain ⟨hf, e2, r2⟩ := un q.1 r e
    exact ⟨hf, f3 ρ3 _ m3 σ3 _ q.2 r2 e2⟩
  · obtain ⟨hf, e2, r2⟩ := un q.1 r e
    exact ⟨hf, f4 ρ3 _ m3 σ3 _ q.2 r2 e2⟩
end
end DL

set_option Elab.async false
set_option linter.all false
set_option maxRecDepth 100000
set_option maxHeartbeats 4000000
/-! DL16: the soundness of statements. -/
namespace DL
open PySem PySem.Spec PyProof.Rows L2
section
variable {nm : Nm} {c : Ck}
theorem inv_asgN {i : Nat} {e : E} {x : Stmt} (h : chkS nm c (.asg (.n i) e) x = true) : ∃ y py value pos, x = .Assign [.Name y py] value pos ∧ ((notLc value || (isLc e && lcX value)) && chkG c (.n i) (.Name y py) && chkE nm c e value) = true := by
  cases x with
  | Assign ts value pos =>
    match ts, h with
    | [], h => have h : false = true := h; cases h
    | [t], h =>
      cases t with
      | Name y py => exact ⟨y, py, value, pos, rfl, h⟩
      | _ => have h : false = true := h; cases h
    | t :: _ :: _, h => cases t <;> (have h : false = true := h; cases h)
  | _ => have h : false = true := h; cases h
theorem inv_asgT {g gs : Tg} {e : E} {x : Stmt} (h : chkS nm c (.asg (.cons g gs) e) x = true) : ∃ ts kk p value pos, x = .Assign [.Tuple ts kk p] value pos ∧ (swNone c ts value && notLc value && chkG c (.cons g gs) (.Tuple ts kk p) && chkE nm c e value) = true := by
  cases x with
  | Assign ts value pos =>
    match ts, h with
    | [], h => have h : false = true := h; cases h
    | [t], h =>
      cases t with
      | Tuple ts kk p => exact ⟨ts, kk, p, value, pos, rfl, h⟩
      | _ => have h : false = true := h; cases h
    | t :: _ :: _, h => cases t <;> (have h : false = true := h; cases h)
  | _ => have h : false = true := h; cases h
theorem inv_asg0 {e : E} {x : Stmt} (h : chkS nm c (.asg .nil e) x = true) : False := by
  cases x <;> (have h : false = true := h; cases h)
theorem inv_par {i j : Nat} {a b : E} {x : Stmt} (h : chkS nm c (.par i j a b) x = true) : ∃ y py z pz kt pt a1 b1 k2 p2 pos, x = .Assign [.Tuple [.Name y py, .Name z pz] kt pt] (.Tuple [a1, b1] k2 p2) pos ∧
    (isLocB c.sc y && isLocB c.sc z && decide (c.N[i]? = some y) && decide (c.N[j]? = some z) && decide (i ≠ j) && decide (y ≠ z) && decide (py.line = pz.line) &&
      !(foldedForSure 8 a1 && foldedForSure 8 b1) && !(constantsAlone 8 a1 && constantsAlone 8 b1) && plainX a1 && plainX b1 && chkE nm c a a1 && chkE nm c b b1) = true := by
  cases x with
  | Assign ts value pos =>
    match ts, h with
    | [], h => have h : false = true := h; cases h
    | [t], h =>
      cases t with
      | Tuple ts kt pt =>
        match ts, h with
        | [], h => have h : false = true := h; cases h
        | [t], h => cases t <;> (have h : false = true := h; cases h)
        | [t1, t2], h =>
          cases t1 with
          | Name y py =>
            cases t2 with
            | Name z pz =>
              cases value with
              | Tuple vs k2 p2 =>
                match vs, h with
                | [], h => have h : false = true := h; cases h
                | [_], h => have h : false = true := h; cases h
                | [a1, b1], h => exact ⟨y, py, z, pz, kt, pt, a1, b1, k2, p2, pos, rfl, h⟩
                | _ :: _ :: _ :: _, h => have h : false = true := h; cases h
              | _ => have h : false = true := h; cases h
            | _ => have h : false = true := h; cases h
          | _ => have h : false = true := h; cases h
        | t1 :: t2 :: _ :: _, h => cases t1 <;> first | (have h : false = true := h; cases h; done) | (cases t2 <;> (have h : false = true := h; cases h))
      | _ => have h : false = true := h; cases h
    | t :: _ :: _, h =>
      cases t with
      | Tuple ts kt pt =>
        match ts, h with
        | [], h => have h : false = true := h; cases h
        | [t], h => cases t <;> (have h : false = true := h; cases h)
        | [t1, t2], h =>
          cases t1 with
          | Name y py => cases t2 <;> (have h : false = true := h; cases h)
          | _ => have h : false = true := h; cases h
        | t1 :: t2 :: _ :: _, h => cases t1 <;> first | (have h : false = true := h; cases h; done) | (cases t2 <;> (have h : false = true := h; cases h))
      | _ => have h : false = true := h; cases h
  | _ => have h : false = true := h; cases h
theorem inv_aug {i : Nat} {o : Operator} {e : E} {x : Stmt} (h : chkS nm c (.aug i o e) x = true) : ∃ y py o1 value pos, x = .AugAssign (.Name y py) o1 value pos ∧ (decide (o = o1) && (decide (o = .Add) || decide (o = .Sub)) && decide (c.N[i]? = some y) && visB c.sc y && c.st y && chkE nm c e value) = true := by
  cases x with
  | AugAssign t o1 value pos =>
    cases t with
    | Name y py => exact ⟨y, py, o1, value, pos, rfl, h⟩
    | _ => have h : false = true := h; cases h
  | _ => have h : false = true := h; cases h
theorem inv_put {a i e : E} {x : Stmt} (h : chkS nm c (.put a i e) x = true) : ∃ a1 i1 p value pos, x = .Assign [.Subscript a1 i1 p] value pos ∧ (plainX i1 && notLc value && chkE nm c a a1 && chkE nm c i i1 && chkE nm c e value) = true := by
  cases x with
  | Assign ts value pos =>
    match ts, h with
    | [], h => have h : false = true := h; cases h
    | [t], h =>
      cases t with
      | Subscript a1 i1 p => exact ⟨a1, i1, p, value, pos, rfl, h⟩
      | _ => have h : false = true := h; cases h
    | t :: _ :: _, h => cases t <;> (have h : false = true := h; cases h)
  | _ => have h : false = true := h; cases h
theorem inv_setf {cl : Nat} {a e : E} {f : Str} {x : Stmt} (h : chkS nm c (.setf cl a f e) x = true) : ∃ a1 f1 p value pos, x = .Assign [.Attribute a1 f1 p] value pos ∧ (decide (f1 = f) && notCall0 a1 && notLc value && decide (f ∈ nm.f cl) && chkE nm c a a1 && chkE nm c e value) = true := by
  cases x with
  | Assign ts value pos =>
    match ts, h with
    | [], h => have h : false = true := h; cases h
    | [t], h =>
      cases t with
      | Attribute a1 f1 p => exact ⟨a1, f1, p, value, pos, rfl, h⟩
      | _ => have h : false = true := h; cases h
    | t :: _ :: _, h => cases t <;> (have h : false = true := h; cases h)
  | _ => have h : false = true := h; cases h
theorem inv_app {a e : E} {x : Stmt} (h : chkS nm c (.app a e) x = true) : ∃ a1 y apos e1 cpos pos, x = .Expr (.Call (.Attribute a1 y apos) [e1] [] cpos) pos ∧ (decide (y = ("append" : Str)) && notCall0 a1 && (apos.endLine == cpos.line) && plainX e1 && chkE nm c a a1 && chkE nm c e e1) = true := by
  cases x with
  | Expr v pos =>
    cases v with
    | Call f xs kws cpos =>
      cases f with
      | Attribute a1 y apos =>
        match xs, h with
        | [], h => have h : false = true := h; cases h
        | [e1], h =>
          cases kws with
          | nil => exact ⟨a1, y, apos, e1, cpos, pos, rfl, h⟩
          | cons _ _ => have h : false = true := h; cases h
        | _ :: _ :: _, h => have h : false = true := h; cases h
      | _ => have h : false = true := h; cases h
    | _ => have h : false = true := h; cases h
  | _ => have h : false = true := h; cases h
theorem inv_ex {e : E} {x : Stmt} (h : chkS nm c (.ex e) x = true) : ∃ value pos, x = .Expr value pos ∧ (notLc value && chkE nm c e value) = true := by
  cases x with
  | Expr value pos => exact ⟨value, pos, rfl, h⟩
  | _ => have h : false = true := h; cases h
theorem inv_ret {e : E} {x : Stmt} (h : chkS nm c (.ret e) x = true) : ∃ value pos, x = .Return (some value) pos ∧ chkE nm c e value = true := by
  cases x with
  | Return v pos =>
    cases v with
    | some value => exact ⟨value, pos, rfl, h⟩
    | none => have h : false = true := h; cases h
  | _ => have h : false = true := h; cases h
theorem inv_if {t : E} {a b : SIs} {x : Stmt} (h : chkS nm c (.if_ t a b) x = true) : ∃ t1 a1 b1 pos, x = .If t1 a1 b1 pos ∧ (chkE nm c t t1 && chkSs nm c a a1 && chkSs nm c b b1) = true := by
  cases x with
  | If t1 a1 b1 pos => exact ⟨t1, a1, b1, pos, rfl, h⟩
  | _ => have h : false = true := h; cases h
theorem inv_for {g : Tg} {it : It} {b : SIs} {x : Stmt} (h : chkS nm c (.for_ g it b) x = true) : ∃ tg iter b1 pos, x = .For tg iter b1 [] pos ∧ (plainX iter && plainX tg && tupG it tg && chkG c g tg && chkI nm c it iter && chkSs nm c b b1) = true := by
  cases x with
  | For tg iter b1 els pos =>
    cases els with
    | nil => exact ⟨tg, iter, b1, pos, rfl, h⟩
    | cons _ _ => have h : false = true := h; cases h
  | _ => have h : false = true := h; cases h
theorem inv_while {t : E} {b : SIs} {x : Stmt} (h : chkS nm c (.while_ t b) x = true) : ∃ t1 b1 pos, x = .While t1 b1 [] pos ∧ (chkE nm c t t1 && chkSs nm c b b1) = true := by
  cases x with
  | While t1 b1 els pos =>
    cases els with
    | nil => exact ⟨t1, b1, pos, rfl, h⟩
    | cons _ _ => have h : false = true := h; cases h
  | _ => have h : false = true := h; cases h
theorem inv_try {b : SIs} {x : Stmt} (h : chkS nm c (.try_ b) x = true) : ∃ b1 hh hs pos, x = .Try b1 (hh :: hs) [] [] pos ∧ chkSs nm c b b1 = true := by
  cases x with
  | Try b1 hs els fin pos =>
    cases hs with
    | nil => have h : false = true := h; cases h
    | cons hh hs =>
      cases els with
      | cons _ _ => have h : false = true := h; cases h
      | nil =>
        cases fin with
        | cons _ _ => have h : false = true := h; cases h
        | nil => exact ⟨b1, hh, hs, pos, rfl, h⟩
  | _ => have h : false = true := h; cases h
end
section
variable {W : Wd} {nm : Nm} {G : Nat → Option Phi} {C : Nat → Option Int} {k : Nat}
theorem BX.nox {k : Nat} {X : Cx} {c : Ck} (B : BX W nm G C k X c) : BX W nm G C k X.nox c :=
  { K := B.K, prog := B.prog, w := B.w, calm := B.calm, nd := B.nd, N := B.N, sc := B.sc, kind := B.kind, st := B.st, room := B.room, po := PassesOwn.never, T := B.T, tl := B.tl, lm := B.lm }
mutual
theorem okS : ∀ (s : SI) {k : Nat} {X : Cx} {c : Ck} (B : BX W nm G C k X c) (x : Stmt), chkS nm c s x = true → PS X x (sD W (evS G C s))
  | .asg (.n i) e, k, X, c, B, x, h => by
    obtain ⟨y, py, value, pos, rfl, h⟩ := inv_asgN h
    obtain ⟨h, h3⟩ := and2 h
    obtain ⟨h1, h2⟩ := and2 h
    have h2 : (decide (c.N[i]? = some y) && c.st y) = true := h2
    obtain ⟨h2, h2'⟩ := and2 h2
    rw [Bool.or_eq_true] at h1
    rcases h1 with h1 | h1
    · exact s_asgN B h1 h2 h2' (okE e B value h3).pe
    · obtain ⟨h1, _⟩ := and2 h1
      cases e with
      | lc g it t elt own =>
        obtain ⟨elt1, tg, iter, ifs, as, scope, lpos, rfl, hh⟩ := inv_lc h3
        have h0 : as = 0 := by
          obtain ⟨hh, _⟩ := and2 hh
          obtain ⟨hh, _⟩ := and2 hh
          obtain ⟨hh, _⟩ := and2 hh
          obtain ⟨hh, _⟩ := and2 hh
          obtain ⟨hh, _⟩ := and2 hh
          obtain ⟨hh, _⟩ := and2 hh
          obtain ⟨hh, _⟩ := and2 hh
          obtain ⟨hh, _⟩ := and2 hh
          obtain ⟨hh, _⟩ := and2 hh
          exact of_decide_eq_true (and2 hh).1
        subst h0
        exact s_asgL B h2 h2' h3
      | _ => have h1 : false = true := h1; cases h1
  | .asg .nil e, k, X, c, B, x, h => (inv_asg0 h).elim
  | .asg (.cons g gs) e, k, X, c, B, x, h => by
    obtain ⟨ts, kk, p, value, pos, rfl, h⟩ := inv_asgT h
    obtain ⟨h, h4⟩ := and2 h
    obtain ⟨h, h3⟩ := and2 h
    obtain ⟨h1, h2⟩ := and2 h
    exact s_asgT B h2 h1 (okG B _ _ h3) (okE e B value h4).pe
  | .par i j a b, k, X, c, B, x, h => by
    obtain ⟨y, py, z, pz, kt, pt, a1, b1, k2, p2, pos, rfl, h⟩ := inv_par h
    obtain ⟨h, h13⟩ := and2 h
    obtain ⟨h, h12⟩ := and2 h
    obtain ⟨h, h11⟩ := and2 h
    obtain ⟨h, h10⟩ := and2 h
    obtain ⟨h, h9⟩ := and2 h
    obtain ⟨h, h8⟩ := and2 h
    obtain ⟨h, h7⟩ := and2 h
    obtain ⟨h, h6⟩ := and2 h
    obtain ⟨h, h5⟩ := and2 h
    obtain ⟨h, h4⟩ := and2 h
    obtain ⟨h, h3⟩ := and2 h
    obtain ⟨h1, h2⟩ := and2 h
    rw [Bool.not_eq_true'] at h8 h9
    exact s_par B h1 h2 h3 h4 (of_decide_eq_true h5) (of_decide_eq_true h6) (of_decide_eq_true h7) h8 h9 h10 h11 (okE a B a1 h12).pe (okE b B b1 h13).pe
  | .aug i o e, k, X, c, B, x, h => by
    obtain ⟨y, py, o1, value, pos, rfl, h⟩ := inv_aug h
    obtain ⟨h, h6⟩ := and2 h
    obtain ⟨h, h5⟩ := and2 h
    obtain ⟨h, h4⟩ := and2 h
    obtain ⟨h, h3⟩ := and2 h
    obtain ⟨h1, h2⟩ := and2 h
    obtain rfl := of_decide_eq_true h1
    exact s_aug B h2 h3 h5 (okE e B value h6).pe
  | .put a i e, k, X, c, B, x, h => by
    obtain ⟨a1, i1, p, value, pos, rfl, h⟩ := inv_put h
    obtain ⟨h, h5⟩ := and2 h
    obtain ⟨h, h4⟩ := and2 h
    obtain ⟨h, h3⟩ := and2 h
    obtain ⟨h1, h2⟩ := and2 h
    exact s_put B h2 h1 (okE a B a1 h3).pe (okE i B i1 h4).pe (okE e B value h5).pe
  | .setf cl a f e, k, X, c, B, x, h => by
    obtain ⟨a1, f1, p, value, pos, rfl, h⟩ := inv_setf h
    obtain ⟨h, h6⟩ := and2 h
    obtain ⟨h, h5⟩ := and2 h
    obtain ⟨h, h4⟩ := and2 h
    obtain ⟨h, h3⟩ := and2 h
    obtain ⟨h1, h2⟩ := and2 h
    obtain rfl := of_decide_eq_true h1
    exact s_setf B h3 (of_decide_eq_true h4) (okE a B a1 h5).pe (okE e B value h6).pe
  | .app a e, k, X, c, B, x, h => by
    obtain ⟨a1, y, apos, e1, cpos, pos, rfl, h⟩ := inv_app h
    obtain ⟨h, h6⟩ := and2 h
    obtain ⟨h, h5⟩ := and2 h
    obtain ⟨h, h4⟩ := and2 h
    obtain ⟨h, h3⟩ := and2 h
    obtain ⟨h1, h2⟩ := and2 h
    obtain rfl := of_decide_eq_true h1
    exact s_app B h2 h3 h4 (okE a B a1 h5).pe (okE e B e1 h6).pe
  | .ex e, k, X, c, B, x, h => by
    obtain ⟨value, pos, rfl, h⟩ := inv_ex h
    obtain ⟨h1, h2⟩ := and2 h
    exact s_ex h1 (okE e B value h2).pe
  | .ret e, k, X, c, B, x, h => by
    obtain ⟨value, pos, rfl, h⟩ := inv_ret h
    exact s_ret (okE e B value h).pe
  | .if_ t a b, k, X, c, B, x, h => by
    obtain ⟨t1, a1, b1, pos, rfl, h⟩ := inv_if h
    obtain ⟨h, h3⟩ := and2 h
    obtain ⟨h1, h2⟩ := and2 h
    exact s_if (okE t B t1 h1).pt (okSs a B a1 h2) (okSs b B b1 h3)
  | .for_ g it b, k, X, c, B, x, h => by
    obtain ⟨tg, iter, b1, pos, rfl, h⟩ := inv_for h
    obtain ⟨h, h6⟩ := and2 h
    obtain ⟨h, h5⟩ := and2 h
    obtain ⟨h, h4⟩ := and2 h
    obtain ⟨h, h3⟩ := and2 h
    obtain ⟨h1, h2⟩ := and2 h
    exact s_for B h1 (okI it B iter tg h3 h5) (okG B g tg h4) (okSs b B b1 h6)
  | .while_ t b, k, X, c, B, x, h => by
    obtain ⟨t1, b1, pos, rfl, h⟩ := inv_while h
    obtain ⟨h1, h2⟩ := and2 h
    exact s_while B (okE t B t1 h1).pt (okSs b B b1 h2)
  | .try_ b, k, X, c, B, x, h => by
    obtain ⟨b1, hh, hs, pos, rfl, h⟩ := inv_try h
    exact ps_try_thru0 (okSs b B.nox b1 h)
  | .lock s, k, X, c, B, x, h => s_lock (okS s B x h)
  | .never, k, X, c, B, x, h => s_never
  | .brk, k, X, c, B, x, h => by
    cases x with
    | Break pos => exact s_brk
    | _ => have h : false = true := h; cases h
  | .cont, k, X, c, B, x, h => by
    cases x with
    | Continue pos => exact s_cont
    | _ => have h : false = true := h; cases h
theorem okSs : ∀ (ss : SIs) {k : Nat} {X : Cx} {c : Ck} (B : BX W nm G C k X c) (xs : List Stmt), chkSs nm c ss xs = true → PSs X xs (sD W (evSs G C ss))
  | .nil, k, X, c, B, xs, h => by
    cases xs with
    | nil => exact s_nil
    | cons x xs => have h : false = true := h; cases h
  | .cons s ss, k, X, c, B, xs, h => by
    cases xs with
    | nil => have h : false = true := h; cases h
    | cons x xs =>
      have h : (chkS nm c s x && chkSs nm c ss xs) = true := h
      obtain ⟨h1, h2⟩ := and2 h
      exact s_cons (f := evS G C s) (g := evSs G C ss) (okS s B x h1) (okSs ss B xs h2)
end
end
end DL

set_option Elab.async false
set_option linter.all false
set_option maxRecDepth 100000
set_option maxHeartbeats 1000000
/-! DL17: a def keeps what its body's meaning says. -/
namespace DL
open PySem PySem.Spec PyProof.Rows L2
section
variable {W : Wd} {S ex : Store} {m : Mp} {H : Hp}
/-- the store's objects lie among the first n -/
def Mp.cut (m : Mp) (n : Nat) : Mp := ⟨m.ad.take n, m.hid⟩
theorem Mp.cut_mem {m : Mp} {n : Nat} {b : Addr} (h : b ∈ m.cut n) : b ∈ m := h.imp (fun q => List.mem_of_mem_take q) id
mutual
theorem cut_rep {K : PySem.W.Frag} {n : Nat} : ∀ (d : D) (v : V), RepV K m H d v → below n d = true → RepV K (m.cut n) H d v
  | .non, v, h, _ => h
  | .bl b, v, h, _ => h
  | .int i, v, h, _ => h
  | .str x, v, h, _ => h
  | .tup ds, v, h, hb => by
    obtain ⟨a, vs, h1, h2, h3⟩ := h
    exact ⟨a, vs, h1, h2, cut_reps ds vs h3 hb⟩
  | .fl ds, v, h, hb => by
    obtain ⟨a, vs, h1, h2, h3, h4⟩ := h
    exact ⟨a, vs, h1, fun z => h2 (Mp.cut_mem z), h3, cut_reps ds vs h4 hb⟩
  | .scr ns, v, h, _ => by
    obtain ⟨a, h1, h2⟩ := h
    exact ⟨a, h1, h2.imp (fun q => ⟨fun z => q.1 (Mp.cut_mem z), q.2⟩) id⟩
  | .ref i, v, h, hb => by
    obtain ⟨a, h1, h2⟩ := h
    have hi : i < n := of_decide_eq_true hb
    exact ⟨a, by show (m.ad.take n)[i]? = some a; rw [List.getElem?_take_of_lt hi]; exact h1, h2⟩
theorem cut_reps {K : PySem.W.Frag} {n : Nat} : ∀ (ds : List D) (vs : List V), RepVs K m H ds vs → belows n ds = true → RepVs K (m.cut n) H ds vs
  | [], vs, h, _ => h
  | d :: ds, vs, h, hb => by
    obtain ⟨v, r, h1, h2, h3⟩ := h
    have hb : (below n d && belows n ds) = true := hb
    obtain ⟨b1, b2⟩ := and2 hb
    exact ⟨v, r, h1, cut_rep d v h2 b1, cut_reps ds r h3 b2⟩
end
mutual
theorem below_of {K : PySem.W.Frag} : ∀ (d : D) (v : V), RepV K m H d v → below m.ad.length d = true
  | .non, v, h => rfl
  | .bl b, v, h => rfl
  | .int i, v, h => rfl
  | .str x, v, h => rfl
  | .tup ds, v, h => by
    obtain ⟨a, vs, h1, h2, h3⟩ := h
    exact belows_of ds vs h3
  | .fl ds, v, h => by
    obtain ⟨a, vs, h1, h2, h3, h4⟩ := h
    exact belows_of ds vs h4
  | .scr ns, v, h => rfl
  | .ref i, v, h => by
    obtain ⟨a, h1, h2⟩ := h
    exact decide_eq_true (List.getElem?_eq_some_iff.mp h1).1
theorem belows_of {K : PySem.W.Frag} : ∀ (ds : List D) (vs : List V), RepVs K m H ds vs → belows m.ad.length ds = true
  | [], vs, h => rfl
  | d :: ds, vs, h => by
    obtain ⟨v, r, h1, h2, h3⟩ := h
    show (below m.ad.length d && belows m.ad.length ds) = true
    rw [below_of d v h2, belows_of ds r h3]
    rfl
end
theorem closed_of (r : RelS W S m H) : closed S := fun o ho => by
  obtain ⟨n, hn, e⟩ := List.getElem_of_mem ho
  have hS : S[n]? = some o := by rw [List.getElem?_eq_getElem hn, e]
  obtain ⟨a, _, hO⟩ := r.at hS
  rw [← r.len]
  cases o with
  | lst ds => obtain ⟨vs, _, h2⟩ := hO; exact belows_of _ _ h2
  | dct l kvs => obtain ⟨vs, _, h2⟩ := hO; exact belows_of _ _ h2.2
  | dctN l kvs => obtain ⟨vs, _, h2⟩ := hO; exact belows_of _ _ h2.2.2.1
  | ins cl fs => obtain ⟨ca, dx, ws, _, _, h2⟩ := hO; exact belows_of _ _ h2.2
mutual
theorem belows_unNK (n : Nat) : ∀ k : NestedKey, below n (unNK k) = true
  | .none => rfl
  | .num i => rfl
  | .text x => rfl
  | .tup ks => belows_unNKs n ks
theorem belows_unNKs (n : Nat) : ∀ ks : List NestedKey, belows n (unNK.unNKs ks) = true
  | [] => rfl
  | k :: ks => by
    show (below n (unNK k) && belows n (unNK.unNKs ks)) = true
    rw [belows_unNK n k, belows_unNKs n ks]
    rfl
end
theorem cut_ob {a : Addr} {o : Ob} {n : Nat} (h : RelO W m H a o) (hb : o.below n = true) : RelO W (m.cut n) H a o := by
  cases o with
  | lst ds => obtain ⟨vs, h1, h2⟩ := h; exact ⟨vs, h1, cut_reps _ _ h2 hb⟩
  | dct l kvs => obtain ⟨vs, h1, h2⟩ := h; exact ⟨vs, h1, h2.1, cut_reps _ _ h2.2 hb⟩
  | dctN l kvs =>
    obtain ⟨vs, h1, h2, h3, h4, h5⟩ := h
    refine ⟨vs, h1, h2, cut_reps _ _ h3 ?_, cut_reps _ _ h4 hb, h5⟩
    clear h1 h2 h3 h4 h5 hb
    induction kvs with
    | nil => rfl
    | cons kv kvs ih =>
      show (below n (unNK kv.1) && belows n _) = true
      rw [belows_unNK]
      exact ih
  | ins cl fs => obtain ⟨ca, dx, ws, h0, h1, h2⟩ := h; exact ⟨ca, dx, ws, h0, h1, h2.1, cut_reps _ _ h2.2 hb⟩
theorem RelS.cut (r : RelS W (S ++ ex) m H) (c : closed S) : RelS W S (m.cut S.length) H where
  len := by
    have := r.len
    rw [List.length_append] at this
    show (m.ad.take S.length).length = _
    rw [List.length_take]
    omega
  nd := r.nd.sublist (List.take_sublist _ _)
  hid := fun b hb => ⟨fun z => (r.hid b hb).1 (List.mem_of_mem_take z), (r.hid b hb).2⟩
  ob := fun n o a h1 h2 => by
    have hn : n < S.length := (List.getElem?_eq_some_iff.mp h1).1
    have h2 : (m.ad.take S.length)[n]? = some a := h2
    rw [List.getElem?_take_of_lt hn] at h2
    exact cut_ob (r.ob n o a (by rw [List.getElem?_append_left hn]; exact h1) h2) (c o (List.mem_of_getElem? h1))
  tabs := r.tabs
end
/-- what a def's end is: the def's own objects are dropped -/
def endP (n : Nat) (R : RE) (d : D) (S1 : Store) : Prop := ∃ S' ex, S1 = S' ++ ex ∧ n ≤ S'.length ∧ closed S' ∧ below S'.length d = true ∧ R d S'
def startD (N : List Str) (ds : List D) : Rho := ds.map some ++ List.replicate (N.length - ds.length) none
def stB (sc : Scope) (x : Str) : Bool := match sc.names.lookup x with | some .local => true | some .cell => true | _ => false
theorem start_get {α : Type} {n : Nat} {l : List α} {i : Nat} {x : α} (h : (l.map some ++ List.replicate n none)[i]? = some (some x)) : l[i]? = some x := by
  by_cases hi : i < l.length
  · rw [List.getElem?_append_left (by simpa using hi), List.getElem?_map] at h
    cases e : l[i]? with
    | none => rw [e] at h; cases h
    | some a => rw [e] at h; cases h; rfl
  · rw [List.getElem?_append_right (by simpa using hi), List.getElem?_replicate] at h
    split at h <;> cases h
/-- a body from its entry -/
theorem okBody {W : Wd} {nm : Nm} {G : Nat → Option Phi} {C : Nat → Option Int} {k : Nat} {mg : Str → Option Value} {base : Heap} {qual : Str} {st : Stmt} {f : Addr} {N ps : List Str} {φ : Phi} {ss : SIs} {tl lm : Bool}
    (T : Lk W nm G C k mg base) (Sc : FnScope N ps (L2.defScope st)) (len : ∀ ds S R, φ ds S R → ds.length = ps.length) (chk : chkSs nm { N := N, sc := L2.defScope st, st := stB (L2.defScope st), tl := tl, lm := lm } ss (L2.defBody st) = true)
    (body : ∀ ds S R, closed S → φ ds S R → evSs G C ss { nx := fun _ S1 => endP S.length R .non S1, rt := endP S.length R } (startD N ds) S)
    {cdv : Value} {A : Around} {outer : List Env} {s : Shared} {H : Hp} {vs : List V} {Q : VK} {E : XK} (hr : Room (k + 1) (A.deeper (envOfC qual (L2.defScope st) s.heap.objs.size f cdv)))
    (htl : tl = true → TX W nm G C k (cxOf L2.CX0 W.P W.w W.K mg base N qual (L2.defScope st) f cdv A outer s H E).nox) (hlm : lm = true → LX W nm G C k (cxOf L2.CX0 W.P W.w W.K mg base N qual (L2.defScope st) f cdv A outer s H E).nox) (h : spD W φ vs H Q E) :
    ∃ t, PSs (cxOf L2.CX0 W.P W.w W.K mg base N qual (L2.defScope st) f cdv A outer s H E).nox (L2.defBody st) t ∧ t { nx := fun _ H' => Q .non H', rt := Q } (L2.start N vs) H := by
    obtain ⟨S, m, ds, R, rs, q, hφ, fin⟩ := h
    have B : BX W nm G C k (cxOf L2.CX0 W.P W.w W.K mg base N qual (L2.defScope st) f cdv A outer s H E).nox { N := N, sc := L2.defScope st, st := stB (L2.defScope st), tl := tl, lm := lm } :=
      { K := rfl, prog := rfl, w := rfl, calm := rfl, nd := Sc.nd, N := rfl, sc := rfl, kind := Sc.kind, room := hr, po := PassesOwn.never, T := T, tl := htl, lm := hlm
        st := fun y hy => by
          have hy : stB (L2.defScope st) y = true := hy
          refine ⟨?_, .inl rfl⟩
          show L2.Loc (L2.defScope st) y
          unfold stB at hy
          unfold L2.Loc
          split at hy <;> first | exact .inl (by assumption) | exact .inr (by assumption) | cases hy }
    refine ⟨_, okSs ss B _ chk, ?_⟩
    have hl : ds.length = ps.length := len ds S R hφ
    have hl2 : vs.length = ds.length := q.length
    have cutE : ∀ {m' : Mp} {H' : Hp} {n : Nat}, Ext m H m' H' → S.length ≤ n → Ext m H (m'.cut n) H' := fun {m' H' n} e hn =>
      ⟨by
        obtain ⟨t, ht⟩ := e.pre
        show m.ad <+: m'.ad.take n
        rw [← ht, List.take_append]
        rw [List.take_of_length_le (by rw [rs.len]; exact hn)]
        exact List.prefix_append _ _, e.hid, fun b hb => e.new b (Mp.cut_mem hb), e.keep, e.tup, e.frz⟩
    refine ⟨_, startD N ds, S, m, ⟨?_, fun i d hd => ?_, rs⟩, body ds S R (closed_of rs) hφ, fun ρ' S' m' σ' H' hn r e => ?_, fun d S' m' H' v hn e r qv => ?_, fun _ _ _ _ _ z => z.elim, fun _ _ _ _ _ z => z.elim⟩
    · unfold startD L2.start
      rw [List.length_append, List.length_append, List.length_map, List.length_map, List.length_replicate, List.length_replicate, hl2]
    · have hd2 := start_get hd
      obtain ⟨v, h1, h2⟩ := q.get hd2
      refine ⟨v, ?_, h2⟩
      unfold L2.start
      have hi : i < vs.length := (List.getElem?_eq_some_iff.mp h1).1
      rw [List.getElem?_append_left (by simpa using hi), List.getElem?_map, h1]
      rfl
    · obtain ⟨S2, ex, rfl, hn, hc, hb, hR⟩ := hn
      exact fin _ S2 (m'.cut S2.length) H' .non hR (cutE e hn) (r.st.cut hc) rfl
    · obtain ⟨S2, ex, rfl, hn, hc, hb, hR⟩ := hn
      exact fin d S2 (m'.cut S2.length) H' v hR (cutE e hn) (r.cut hc) (cut_rep d v qv hb)
theorem spD_len {W : Wd} {φ : Phi} {n : Nat} (len : ∀ ds S R, φ ds S R → ds.length = n) (vs : List V) (H : Hp) (Q : VK) (E : XK) (h : spD W φ vs H Q E) : vs.length = n := by
  obtain ⟨S, m, ds, R, rs, q, hφ, fin⟩ := h
  rw [q.length, len ds S R hφ]
/-- THE RULE for a def: n its level -/
theorem okF {W : Wd} {nm : Nm} {G : Nat → Option Phi} {C : Nat → Option Int} {k : Nat} {mg : Str → Option Value} {base : Heap} {x qual : Str} {st : Stmt} {f : Addr} {fd : FuncData} {N ps : List Str} {φ : Phi} {ss : SIs}
    (T : Lk W nm G C k mg base) (F : L2.Fun W.K x qual st f fd) (b : L2.Binds W.K fd ps []) (Sc : FnScope N ps (L2.defScope st)) (len : ∀ ds S R, φ ds S R → ds.length = ps.length) (chk : chkSs nm { N := N, sc := L2.defScope st, st := stB (L2.defScope st) } ss (L2.defBody st) = true)
    (body : ∀ ds S R, closed S → φ ds S R → evSs G C ss { nx := fun _ S1 => endP S.length R .non S1, rt := endP S.length R } (startD N ds) S) : Fn1 W mg base (k + 2) f φ :=
  ⟨fd, ps, F.ok Sc (spD_len len) fun cdv A outer s H vs Q E hr h => okBody (tl := false) (lm := false) T Sc len chk body hr (fun z => nomatch z) (fun z => nomatch z) h, b⟩
end DL

set_option Elab.async false
set_option linter.all false
set_option maxRecDepth 100000
set_option maxHeartbeats 1000000
/-! DL18: what links the defs; the rules of the meaning that one uses. -/
namespace DL
open PySem PySem.Spec PyProof.Rows L2
theorem Lk.mono {W : Wd} {nm : Nm} {G : Nat → Option Phi} {C : Nat → Option Int} {k k' : Nat} {mg : Str → Option Value} {base : Heap} (T : Lk W nm G C k mg base) (h : k ≤ k') : Lk W nm G C k' mg base :=
  have go : ∀ {f φ}, Fn1 W mg base k f φ → Fn1 W mg base k' f φ := fun ⟨fd, ps, F, b⟩ => ⟨fd, ps, F.mono h, b⟩
  { cst := T.cst, blt := T.blt, cls := T.cls, nof := T.nof
    fns := fun j φ x h1 h2 => let ⟨f, a, b⟩ := T.fns j φ x h1 h2; ⟨f, go a, b⟩
    mts := fun c j m φ ca h1 h2 h3 => let ⟨f, a, b⟩ := T.mts c j m φ ca h1 h2 h3; ⟨f, a, go b⟩
    mks := fun c x φ h1 h2 => let ⟨ca, f, a1, a2, a3, b⟩ := T.mks c x φ h1 h2; ⟨ca, f, a1, a2, a3, go b⟩ }
/-- where the j-th def stands -/
structure At (W : Wd) (nm : Nm) (mg : Str → Option Value) (j : Nat) (f : Addr) : Prop where
  g : ∀ x, nm.g j = some x → mg x = some (.ref f) ∧ PySem.W.keepIn W.K (.ref f) = true
  m : ∀ c m ca, nm.m c j = some m → W.C c = some ca → Meth W.K ca m f
  i : ∀ c x, nm.c c = some x → nm.i c = j → ∃ ca, W.C c = some ca ∧ Mk W.K ca f ∧ mg x = some (.ref ca)
def addG (G : Nat → Option Phi) (j : Nat) (φ : Phi) : Nat → Option Phi := fun i => if i = j then some φ else G i
theorem addG_same {G : Nat → Option Phi} {j : Nat} {φ : Phi} : addG G j φ j = some φ := if_pos rfl
theorem addG_ne {G : Nat → Option Phi} {i j : Nat} {φ : Phi} (h : i ≠ j) : addG G j φ i = G i := if_neg h
theorem Lk.add {W : Wd} {nm : Nm} {G : Nat → Option Phi} {C : Nat → Option Int} {k : Nat} {mg : Str → Option Value} {base : Heap} {j : Nat} {f : Addr} {φ : Phi} (T : Lk W nm G C k mg base) (a : At W nm mg j f) (F : Fn1 W mg base (k + 2) f φ) : Lk W nm (addG G j φ) C (k + 2) mg base :=
  have T' := T.mono (Nat.le_add_right k 2)
  { cst := T'.cst, blt := T'.blt, cls := T'.cls, nof := T'.nof
    fns := fun i ψ x h1 h2 => by
      by_cases hi : i = j
      · subst hi
        rw [addG_same] at h2
        cases h2
        exact ⟨f, F, (a.g x h1).1, (a.g x h1).2⟩
      · rw [addG_ne hi] at h2
        exact T'.fns i ψ x h1 h2
    mts := fun c i m ψ ca h1 h2 h3 => by
      by_cases hi : i = j
      · subst hi
        rw [addG_same] at h2
        cases h2
        exact ⟨f, a.m c m ca h1 h3, F⟩
      · rw [addG_ne hi] at h2
        exact T'.mts c i m ψ ca h1 h2 h3
    mks := fun c x ψ h1 h2 => by
      by_cases hi : nm.i c = j
      · rw [hi, addG_same] at h2
        cases h2
        obtain ⟨ca, a1, a2, a3⟩ := a.i c x h1 hi
        exact ⟨ca, f, a1, a2, a3, F⟩
      · rw [addG_ne hi] at h2
        exact T'.mks c x ψ h1 h2 }
theorem Lk.nil {W : Wd} {nm : Nm} {C : Nat → Option Int} {mg : Str → Option Value} {base : Heap} (h1 : ∀ j i x, nm.k j = some x → C j = some i → ∃ t, mg x = some (.int i t)) (h2 : ∀ x ∈ bltNames, mg x = none) (h3 : ∀ c ca, W.C c = some ca → Cls W.K ca) (h4 : ∀ c ca, W.C c = some ca → ∀ f ∈ nm.f c, NoAttr W.K ca f) :
    Lk W nm (fun _ => none) C 0 mg base :=
  { cst := h1, blt := h2, cls := h3, nof := h4, fns := (fun _ _ _ _ h => nomatch h), mts := (fun _ _ _ _ _ _ h => nomatch h), mks := (fun _ _ _ _ h => nomatch h) }

/-! ### a def's end -/
theorem endP_same {n : Nat} {R : RE} {d : D} {S : Store} (hn : n ≤ S.length) (hc : closed S) (hb : below S.length d = true) (h : R d S) : endP n R d S := ⟨S, [], (List.append_nil S).symm, hn, hc, hb, h⟩
theorem endP_drop {n : Nat} {R : RE} {d : D} {S ex : Store} (hn : n ≤ S.length) (hc : closed S) (hb : below S.length d = true) (h : R d S) : endP n R d (S ++ ex) := ⟨S, ex, rfl, hn, hc, hb, h⟩

/-! ### comprehensions and walks -/
/-- the elements are values of their items, the store stays -/
theorem mapP_pure {b : D → Store → (Option D → Store → Prop) → Prop} {Src : Store → Prop} {K : List D → Store → Prop} {S : Store} (f : D → Option D) : ∀ (ds acc : List D), (∀ d ∈ ds, ∀ Q : Option D → Store → Prop, Q (f d) S → b d S Q) → Src S → acc.length + ds.length ≤ sizeLine → K (acc ++ ds.filterMap f) S → mapP b Src K ds acc S
  | [], acc, _, hs, _, hK => by
    rw [List.filterMap_nil, List.append_nil] at hK
    exact ⟨hs, hK⟩
  | d :: ds, acc, h, hs, hl, hK => by
    rw [List.length_cons] at hl
    refine ⟨hs, by omega, h d List.mem_cons_self _ ?_⟩
    refine mapP_pure f ds _ (fun d hd => h d (List.mem_cons_of_mem _ hd)) hs ?_ ?_
    · cases f d with
      | none => simp only; omega
      | some x => simp only; rw [List.length_append, List.length_singleton]; omega
    · rw [List.filterMap_cons] at hK
      cases hf : f d with
      | none => rw [hf] at hK; exact hK
      | some x => rw [hf] at hK; simp only at hK ⊢; rw [List.append_assoc]; exact hK
/-- by an invariant of the items that are left, what is made, the store -/
theorem mapP_inv {b : D → Store → (Option D → Store → Prop) → Prop} {Src : Store → Prop} {K : List D → Store → Prop} (I : List D → List D → Store → Prop) (turn : ∀ d ds acc S, I (d :: ds) acc S → Src S ∧ acc.length < sizeLine ∧ ∀ Q : Option D → Store → Prop, (∀ o S', I ds (match o with | some x => acc ++ [x] | none => acc) S' → Q o S') → b d S Q)
    (fin : ∀ acc S, I [] acc S → Src S ∧ K acc S) : ∀ (ds acc : List D) (S : Store), I ds acc S → mapP b Src K ds acc S
  | [], acc, S, h => fin acc S h
  | d :: ds, acc, S, h => by
    obtain ⟨h1, h2, h3⟩ := turn d ds acc S h
    exact ⟨h1, h2, h3 _ fun o S' h' => mapP_inv I turn fin ds _ S' h'⟩
/-- a walk by an invariant of the items that are left -/
theorem forP_inv {b : D → Rho → Store → (Rho → Store → Prop) → Prop} {Src : Store → Prop} {K : Rho → Store → Prop} (I : List D → Rho → Store → Prop) (turn : ∀ d ds ρ S, I (d :: ds) ρ S → Src S ∧ ∀ Q : Rho → Store → Prop, (∀ ρ' S', I ds ρ' S' → Q ρ' S') → b d ρ S Q)
    (fin : ∀ ρ S, I [] ρ S → Src S ∧ K ρ S) : ∀ (ds : List D) (ρ : Rho) (S : Store), I ds ρ S → forP b Src K ds ρ S
  | [], ρ, S, h => fin ρ S h
  | d :: ds, ρ, S, h => by
    obtain ⟨h1, h3⟩ := turn d ds ρ S h
    exact ⟨h1, h3 _ fun ρ' S' h' => forP_inv I turn fin ds ρ' S' h'⟩
end DL

set_option Elab.async false
set_option linter.all false
set_option maxRecDepth 100000
/-! DL19: the meaning, by cases that are known. -/
namespace DL
open PySem PySem.Spec PyProof.Rows L2
section
variable {S : Store} {R : D → Prop} {B : Bool → Prop} {i j : Int} {a b : List D} {x y : Str}
theorem binP_add : binP S .Add (.int i) (.int j) R = R (.int (i + j)) := rfl
theorem binP_addT : binP S .Add (.tup a) (.tup b) R = (a.length + b.length ≤ sizeLine ∧ R (.tup (a ++ b))) := rfl
theorem binP_addF : binP S .Add (.fl a) (.fl b) R = (a.length + b.length ≤ sizeLine ∧ R (.fl (a ++ b))) := rfl
theorem binP_addS : binP S .Add (.str x) (.str y) R = (x.length + y.length ≤ sizeLine ∧ R (.str (x ++ y))) := rfl
theorem binP_sub : binP S .Sub (.int i) (.int j) R = R (.int (i - j)) := rfl
theorem binP_mul : binP S .Mult (.int i) (.int j) R = ((CMulW i j ∨ CMul i j) ∧ R (.int (i * j))) := rfl
theorem binP_rep : binP S .Mult (.fl a) (.int j) R = (0 ≤ j ∧ j < 2 ^ 63 ∧ a.length * j.toNat ≤ sizeLine ∧ R (.fl (List.replicate j.toNat a).flatten)) := rfl
theorem binP_div : binP S .FloorDiv (.int i) (.int j) R = (CDivW i j ∧ R (.int (i / j))) := rfl
theorem binP_mod : binP S .Mod (.int i) (.int j) R = (0 < j ∧ R (.int (i % j))) := rfl
theorem binP_pow : binP S .Pow (.int i) (.int j) R = (CPow i j ∧ R (.int (i ^ j.toNat))) := rfl
theorem binP_shl : binP S .LShift (.int i) (.int j) R = (CPow i j ∧ R (.int (i * 2 ^ j.toNat))) := rfl
theorem binP_shr : binP S .RShift (.int i) (.int j) R = (0 ≤ j ∧ R (.int (i / 2 ^ j.toNat))) := rfl
theorem binP_and : binP S .BitAnd (.int i) (.int j) R = R (.int (Builtin.bitAnd i j)) := rfl
theorem cmpP_lt : cmpP S .Lt (.int i) (.int j) B = B (decide (i < j)) := rfl
theorem cmpP_le : cmpP S .LtE (.int i) (.int j) B = B (decide (i ≤ j)) := rfl
theorem cmpP_gt : cmpP S .Gt (.int i) (.int j) B = B (decide (j < i)) := rfl
theorem cmpP_ge : cmpP S .GtE (.int i) (.int j) B = B (decide (j ≤ i)) := rfl
theorem eqv_int : PyData.eqv (.int i) (.int j) = decide (i = j) := by
  show (i == j) = decide (i = j)
  rw [Bool.beq_eq_decide_eq]
theorem cmpP_eqI : cmpP S .Eq (.int i) (.int j) B ↔ B (decide (i = j)) := by
  show (SeqAt.shaped (.int i) = true ∧ SeqAt.shaped (.int j) = true ∧ B (PyData.eqv (.int i) (.int j))) ↔ _
  rw [eqv_int]
  exact ⟨fun h => h.2.2, fun h => ⟨rfl, rfl, h⟩⟩
theorem cmpP_neI : cmpP S .NotEq (.int i) (.int j) B ↔ B (!decide (i = j)) := by
  show (SeqAt.shaped (.int i) = true ∧ SeqAt.shaped (.int j) = true ∧ B (!(PyData.eqv (.int i) (.int j)))) ↔ _
  rw [eqv_int]
  exact ⟨fun h => h.2.2, fun h => ⟨rfl, rfl, h⟩⟩
theorem biP_lenT : biP S .len [.tup a] R ↔ R (.int a.length) := ⟨fun ⟨_, h, q⟩ => by cases h; exact q, fun h => ⟨_, rfl, h⟩⟩
theorem biP_lenF : biP S .len [.fl a] R ↔ R (.int a.length) := ⟨fun ⟨_, h, q⟩ => by cases h; exact q, fun h => ⟨_, rfl, h⟩⟩
theorem biP_lenS {ns : List Int} : biP S .len [.scr ns] R ↔ R (.int ns.length) := ⟨fun ⟨_, h, q⟩ => by cases h; rw [List.length_map] at q; exact q, fun h => ⟨_, rfl, by rw [List.length_map]; exact h⟩⟩
theorem biP_abs : biP S .abs [.int i] R = R (.int (if i < 0 then -i else i)) := rfl
theorem biP_int : biP S .int [.int i] R = R (.int i) := rfl
theorem biP_tupF : biP S .tuple [.fl a] R ↔ R (.tup a) := ⟨fun ⟨_, h, q⟩ => by cases h; exact q, fun h => ⟨_, rfl, h⟩⟩
theorem biP_tupT : biP S .tuple [.tup a] R ↔ R (.tup a) := ⟨fun ⟨_, h, q⟩ => by cases h; exact q, fun h => ⟨_, rfl, h⟩⟩
theorem biP_lstF : biP S .list [.fl a] R ↔ R (.fl a) := ⟨fun ⟨_, h, q⟩ => by cases h; exact q, fun h => ⟨_, rfl, h⟩⟩
theorem biP_lstT : biP S .list [.tup a] R ↔ R (.fl a) := ⟨fun ⟨_, h, q⟩ => by cases h; exact q, fun h => ⟨_, rfl, h⟩⟩
theorem biP_sum : biP S .sum [.fl a] R ↔ ∃ ns, intsOf a = some ns ∧ R (.int ns.sum) := ⟨fun ⟨_, ns, _, h, h2, q⟩ => by cases h; exact ⟨ns, h2, q⟩, fun ⟨ns, h2, h⟩ => ⟨_, ns, (fun _ z => nomatch z), rfl, h2, h⟩⟩
theorem biP_all : biP S .all [.fl a] R ↔ ∃ bs, blsOf a = some bs ∧ R (.bl (bs.all id)) := ⟨fun ⟨_, ns, _, h, h2, q⟩ => by cases h; exact ⟨ns, h2, q⟩, fun ⟨ns, h2, h⟩ => ⟨_, ns, (fun _ z => nomatch z), rfl, h2, h⟩⟩
theorem biP_any : biP S .any [.fl a] R ↔ ∃ bs, blsOf a = some bs ∧ R (.bl (bs.any id)) := ⟨fun ⟨_, ns, _, h, h2, q⟩ => by cases h; exact ⟨ns, h2, q⟩, fun ⟨ns, h2, h⟩ => ⟨_, ns, (fun _ z => nomatch z), rfl, h2, h⟩⟩
theorem biP_max : biP S .max [.fl a] R ↔ ∃ ns, intsOf a = some ns ∧ 0 < ns.length ∧ R (.int (maxI ns)) := ⟨fun ⟨_, ns, _, h, h2, h3, q⟩ => by cases h; exact ⟨ns, h2, h3, q⟩, fun ⟨ns, h2, h3, h⟩ => ⟨_, ns, (fun _ z => nomatch z), rfl, h2, h3, h⟩⟩
theorem biP_min : biP S .min [.fl a] R ↔ ∃ ns, intsOf a = some ns ∧ 0 < ns.length ∧ R (.int (minI ns)) := ⟨fun ⟨_, ns, _, h, h2, h3, q⟩ => by cases h; exact ⟨ns, h2, h3, q⟩, fun ⟨ns, h2, h3, h⟩ => ⟨_, ns, (fun _ z => nomatch z), rfl, h2, h3, h⟩⟩
theorem biP_max2 : biP S .max2 [.int i, .int j] R = R (.int (if j > i then j else i)) := rfl
theorem biP_min2 : biP S .min2 [.int i, .int j] R = R (.int (if j < i then j else i)) := rfl
theorem biP_srtT : biP S .sorted [.tup a] R ↔ ∃ ns, intsOf a = some ns ∧ R (.fl ((sortI ns).map .int)) := ⟨fun ⟨_, ns, h, h2, q⟩ => by cases h; exact ⟨ns, h2, q⟩, fun ⟨ns, h2, h⟩ => ⟨_, ns, rfl, h2, h⟩⟩
theorem biP_srtF : biP S .sorted [.fl a] R ↔ ∃ ns, intsOf a = some ns ∧ R (.fl ((sortI ns).map .int)) := ⟨fun ⟨_, ns, h, h2, q⟩ => by cases h; exact ⟨ns, h2, q⟩, fun ⟨ns, h2, h⟩ => ⟨_, ns, rfl, h2, h⟩⟩
theorem walk_tup : walkOf S (.tup a) = some a := rfl
theorem walk_fl : walkOf S (.fl a) = some a := rfl
theorem seq_tup : seqOf S (.tup a) = some a := rfl
theorem seq_fl : seqOf S (.fl a) = some a := rfl
theorem boolP_bl {k : Bool} : boolP (.bl k) B = B k := rfl
theorem isi_int {t : Ty} : isiP t (.int i) B = B (match t with | .int => true | _ => false) := rfl
theorem isi_bl {t : Ty} {k : Bool} : isiP t (.bl k) B = B (match t with | .int => true | .bool => true | _ => false) := rfl
theorem isi_tup {t : Ty} : isiP t (.tup a) B = B (match t with | .tuple => true | _ => false) := rfl
theorem isi_fl {t : Ty} : isiP t (.fl a) B = B (match t with | .list => true | _ => false) := rfl
theorem isi_str {t : Ty} : isiP t (.str x) B = B (match t with | .str => true | _ => false) := rfl
theorem isi_non {t : Ty} : isiP t .non B = B false := rfl
theorem inP_int {ns : List Int} (h : intsOf a = some ns) (q : B (decide (i ∈ ns))) : inP S (.int i) (.tup a) B := .inl ⟨i, ns, rfl, h, q⟩
theorem cmpP_in {c d : D} : cmpP S .In c d B = inP S c d B := rfl
theorem cmpP_nin {c d : D} : cmpP S .NotIn c d B = inP S c d fun b => B (!b) := rfl
theorem ixP_tup : ixP S (.tup a) (.int i) R ↔ ∃ d, L2.atI a i = some d ∧ R d := ⟨fun ⟨_, k, d, h1, h2, h3, h4⟩ => by cases h1; cases h2; exact ⟨d, h3, h4⟩, fun ⟨d, h3, h4⟩ => ⟨a, i, d, rfl, rfl, h3, h4⟩⟩
theorem ixP_fl : ixP S (.fl a) (.int i) R ↔ ∃ d, L2.atI a i = some d ∧ R d := ⟨fun ⟨_, k, d, h1, h2, h3, h4⟩ => by cases h1; cases h2; exact ⟨d, h3, h4⟩, fun ⟨d, h3, h4⟩ => ⟨a, i, d, rfl, rfl, h3, h4⟩⟩
theorem ixP_scr {ns : List Int} : ixP S (.scr ns) (.int i) R ↔ ∃ d, L2.atI (ns.map D.int) i = some d ∧ R d := ⟨fun ⟨_, k, d, h1, h2, h3, h4⟩ => by cases h1; cases h2; exact ⟨d, h3, h4⟩, fun ⟨d, h3, h4⟩ => ⟨_, i, d, rfl, rfl, h3, h4⟩⟩
end
end DL

set_option Elab.async false
set_option linter.all false
set_option maxRecDepth 100000
/-! DL20: rows of data, told by lists. -/
namespace DL
open PySem PySem.Spec PyProof.Rows L2
abbrev endE (S : Store) (R : RE) : DE := { nx := fun _ S1 => endP S.length R .non S1, rt := endP S.length R }
def eN (n : Nat) : D := .int n
def eB (b : Bool) : D := .bl b
def eL (l : List Nat) : D := .tup (l.map eN)
def fL (l : List Nat) : D := .fl (l.map eN)
def eLL (L : List (List Nat)) : D := .tup (L.map eL)
theorem belows_map {α : Type} {n : Nat} {enc : α → D} (h : ∀ x, below n (enc x) = true) : ∀ l : List α, belows n (l.map enc) = true
  | [] => rfl
  | a :: l => by
    show (below n (enc a) && belows n (l.map enc)) = true
    rw [h, belows_map h l]
    rfl
theorem below_eL (n : Nat) (l : List Nat) : below n (eL l) = true := belows_map (fun _ => rfl) l
theorem below_eLL (n : Nat) (L : List (List Nat)) : below n (eLL L) = true := belows_map (below_eL n) L
theorem ints_map {α : Type} {enc : α → D} {f : α → Int} (h : ∀ x, enc x = .int (f x)) : ∀ l : List α, intsOf (l.map enc) = some (l.map f)
  | [] => rfl
  | a :: l => by
    rw [List.map_cons, h, List.map_cons]
    show (intsOf (l.map enc)).map (f a :: ·) = _
    rw [ints_map h l]
    rfl
theorem ints_eN (l : List Nat) : intsOf (l.map eN) = some (l.map fun n : Nat => (n : Int)) := ints_map (fun _ => rfl) l
theorem bls_map {α : Type} {enc : α → D} {f : α → Bool} (h : ∀ x, enc x = .bl (f x)) : ∀ l : List α, blsOf (l.map enc) = some (l.map f)
  | [] => rfl
  | a :: l => by
    rw [List.map_cons, h, List.map_cons]
    show (blsOf (l.map enc)).map (f a :: ·) = _
    rw [bls_map h l]
    rfl
theorem mem_cast {i : Nat} {l : List Nat} : ((i : Int) ∈ l.map fun n : Nat => (n : Int)) ↔ i ∈ l := by
  rw [List.mem_map]
  constructor
  · rintro ⟨a, h, e⟩
    have : a = i := by omega
    rw [← this]; exact h
  · intro h
    exact ⟨i, h, rfl⟩
theorem in_cast {i : Nat} {l : List Nat} : decide ((i : Int) ∈ l.map fun n : Nat => (n : Int)) = l.contains i := by
  rw [Bool.eq_iff_iff, decide_eq_true_iff, mem_cast, List.contains_iff_mem]
theorem size_small {n : Nat} (h : n ≤ 1000000) : n ≤ sizeLine := Nat.le_trans h (by decide)
theorem size_lt {n : Nat} (h : n ≤ 1000000) : n < sizeLine := Nat.lt_of_le_of_lt h (by decide)
theorem rgD_zero (n : Nat) : rgD 0 n = (List.range n).map eN := by
  unfold rgD
  refine List.map_congr_left fun i _ => ?_
  rw [Int.zero_add]
  rfl
theorem rgD_nat (a n : Nat) : rgD (a : Int) n = (List.range n).map fun i => eN (a + i) := by
  unfold rgD
  refine List.map_congr_left fun i _ => ?_
  show D.int _ = D.int _
  congr 1
theorem atL {l : List Nat} {i x : Nat} (h : l[i]? = some x) : L2.atI (l.map eN) ((i : Nat) : Int) = some (eN x) := L2.atI_nat (by rw [List.getElem?_map, h]; rfl)
theorem atM {α : Type} {enc : α → D} {l : List α} {i : Nat} {x : α} (h : l[i]? = some x) : L2.atI (l.map enc) ((i : Nat) : Int) = some (enc x) := L2.atI_nat (by rw [List.getElem?_map, h]; rfl)
section
variable {b : D → Store → (Option D → Store → Prop) → Prop} {Src : Store → Prop} {K : List D → Store → Prop} {S : Store} {α : Type}
/-- each item gives what f says, or nothing -/
theorem mapP_of (enc : α → D) (f : α → Option D) {ds : List D} (xs : List α) (e : ds = xs.map enc) (acc : List D) (h : ∀ x ∈ xs, ∀ Q : Option D → Store → Prop, Q (f x) S → b (enc x) S Q) (hs : Src S) (hl : acc.length + xs.length ≤ 1000000) (hK : K (acc ++ xs.filterMap f) S) : mapP b Src K ds acc S := by
  subst e
  induction xs generalizing acc with
  | nil =>
    rw [List.filterMap_nil, List.append_nil] at hK
    exact ⟨hs, hK⟩
  | cons x xs ih =>
    rw [List.length_cons] at hl
    refine ⟨hs, size_lt (by omega), h x List.mem_cons_self _ ?_⟩
    refine ih _ (fun y hy => h y (List.mem_cons_of_mem _ hy)) ?_ ?_
    · cases f x with
      | none => simp only; omega
      | some y => simp only; rw [List.length_append, List.length_singleton]; omega
    · rw [List.filterMap_cons] at hK
      cases hf : f x with
      | none => rw [hf] at hK; exact hK
      | some y => rw [hf] at hK; simp only at hK ⊢; rw [List.append_assoc]; exact hK
theorem mapP_all (enc : α → D) (f : α → D) {ds : List D} (xs : List α) (e : ds = xs.map enc) (h : ∀ x ∈ xs, ∀ Q : Option D → Store → Prop, Q (some (f x)) S → b (enc x) S Q) (hs : Src S) (hl : xs.length ≤ 1000000) (hK : K (xs.map f) S) : mapP b Src K ds [] S := by
  refine mapP_of enc (fun x => some (f x)) xs e [] h hs (by simpa using hl) ?_
  rw [List.nil_append, List.filterMap_eq_map']
  exact hK
theorem mapP_flt (enc : α → D) (p : α → Bool) (f : α → D) {ds : List D} (xs : List α) (e : ds = xs.map enc) (h : ∀ x ∈ xs, ∀ Q : Option D → Store → Prop, Q (if p x = true then some (f x) else none) S → b (enc x) S Q) (hs : Src S) (hl : xs.length ≤ 1000000) (hK : K ((xs.filter p).map f) S) : mapP b Src K ds [] S := by
  refine mapP_of enc (fun x => if p x = true then some (f x) else none) xs e [] h hs (by simpa using hl) ?_
  rw [List.nil_append]
  have : (xs.filterMap fun x => if p x = true then some (f x) else none) = (xs.filter p).map f := by
    clear hl h hK e
    induction xs with
    | nil => rfl
    | cons x xs ih =>
      rw [List.filterMap_cons, List.filter_cons]
      cases p x with
      | true => simp only [if_true]; rw [ih]; rfl
      | false => simp only [Bool.false_eq_true, if_false]; rw [ih]
  rw [this]
  exact hK
end
/-- a walk over items told by a list, by an invariant -/
theorem forP_of {α : Type} {b : D → Rho → Store → (Rho → Store → Prop) → Prop} {Src : Store → Prop} {K : Rho → Store → Prop} (enc : α → D) (I : List α → Rho → Store → Prop) {ds : List D} (xs : List α) (e : ds = xs.map enc) {ρ : Rho} {S : Store} (h0 : I xs ρ S)
    (turn : ∀ x xs ρ S, I (x :: xs) ρ S → Src S ∧ ∀ Q : Rho → Store → Prop, (∀ ρ' S', I xs ρ' S' → Q ρ' S') → b (enc x) ρ S Q) (fin : ∀ ρ S, I [] ρ S → Src S ∧ K ρ S) : forP b Src K ds ρ S := by
  subst e
  induction xs generalizing ρ S with
  | nil => exact fin ρ S h0
  | cons x xs ih =>
    obtain ⟨h1, h2⟩ := turn x xs ρ S h0
    exact ⟨h1, h2 _ fun ρ' S' h' => ih h'⟩
/-- the elements of a comprehension over a list, by an invariant -/
theorem mapP_by {α : Type} {b : D → Store → (Option D → Store → Prop) → Prop} {Src : Store → Prop} {K : List D → Store → Prop} (enc : α → D) (I : List α → List D → Store → Prop) {ds : List D} (xs : List α) (e : ds = xs.map enc) {acc : List D} {S : Store} (h0 : I xs acc S)
    (turn : ∀ x xs acc S, I (x :: xs) acc S → Src S ∧ acc.length < sizeLine ∧ ∀ Q : Option D → Store → Prop, (∀ o S', I xs (match o with | some x => acc ++ [x] | none => acc) S' → Q o S') → b (enc x) S Q)
    (fin : ∀ acc S, I [] acc S → Src S ∧ K acc S) : mapP b Src K ds acc S := by
  subst e
  induction xs generalizing acc S with
  | nil => exact fin acc S h0
  | cons x xs ih =>
    obtain ⟨h1, h2, h3⟩ := turn x xs acc S h0
    exact ⟨h1, h2, h3 _ fun o S' h' => ih h'⟩
end DL

set_option Elab.async false
set_option linter.all false
set_option maxRecDepth 100000
/-! DL21: data compared, found, sorted. -/
namespace DL
open PySem PySem.Spec PyProof.Rows L2
mutual
/-- plain data, no deeper than n -/
def okD : D → Nat → Bool
  | .non, _ => true
  | .bl _, _ => true
  | .int _, _ => true
  | .str x, _ => PyData.strOk x
  | .tup ds, n => decide (0 < n) && okDs ds (n - 1)
  | .fl ds, n => decide (0 < n) && okDs ds (n - 1)
  | .scr _, _ => false
  | .ref _, _ => false
def okDs : List D → Nat → Bool
  | [], _ => true
  | d :: ds, n => okD d n && okDs ds n
end
mutual
/-- Python's equality of plain data -/
def qv : D → D → Bool
  | .int i, .int j => decide (i = j)
  | .bl a, .bl b => decide (a = b)
  | .str x, .str y => decide (x = y)
  | .non, .non => true
  | .tup xs, .tup ys => qvs xs ys
  | .fl xs, .fl ys => qvs xs ys
  | .bl a, .int j => decide ((if a then (1 : Int) else 0) = j)
  | .int i, .bl b => decide (i = (if b then (1 : Int) else 0))
  | _, _ => false
def qvs : List D → List D → Bool
  | [], [] => true
  | x :: xs, y :: ys => qv x y && qvs xs ys
  | _, _ => false
end
mutual
theorem okD_py : ∀ (d : D) (n : Nat), okD d n = true → ∃ p, toPy d = some p ∧ p.canLay0 = true ∧ p.depth ≤ n
  | .non, n, _ => ⟨.none, by simp [toPy], by simp [PyData.canLay0], by simp [PyData.depth]⟩
  | .bl b, n, _ => ⟨.bool b, by simp [toPy], by simp [PyData.canLay0], by simp [PyData.depth]⟩
  | .int i, n, _ => ⟨.int i, by simp [toPy], by simp [PyData.canLay0], by simp [PyData.depth]⟩
  | .str x, n, h => ⟨.str x, by simp [toPy], by simpa [PyData.canLay0, okD] using h, by simp [PyData.depth]⟩
  | .tup ds, n, h => by
    simp only [okD, Bool.and_eq_true, decide_eq_true_eq] at h
    obtain ⟨ps, h1, h2, h3⟩ := okDs_py ds (n - 1) h.2
    exact ⟨.tuple ps, by simp [toPy, h1], by simpa [PyData.canLay0] using h2, by simp only [PyData.depth]; omega⟩
  | .fl ds, n, h => by
    simp only [okD, Bool.and_eq_true, decide_eq_true_eq] at h
    obtain ⟨ps, h1, h2, h3⟩ := okDs_py ds (n - 1) h.2
    exact ⟨.list ps, by simp [toPy, h1], by simpa [PyData.canLay0] using h2, by simp only [PyData.depth]; omega⟩
  | .scr _, n, h => by simp [okD] at h
  | .ref _, n, h => by simp [okD] at h
theorem okDs_py : ∀ (ds : List D) (n : Nat), okDs ds n = true → ∃ ps, toPys ds = some ps ∧ PyData.canLayAll0 ps = true ∧ PyData.depthAll ps ≤ n
  | [], n, _ => ⟨[], by simp [toPys], by simp [PyData.canLayAll0], by simp [PyData.depthAll]⟩
  | d :: ds, n, h => by
    simp only [okDs, Bool.and_eq_true] at h
    obtain ⟨p, h1, h2, h3⟩ := okD_py d n h.1
    obtain ⟨ps, g1, g2, g3⟩ := okDs_py ds n h.2
    exact ⟨p :: ps, by simp [toPys, h1, g1], by simp [PyData.canLayAll0, h2, g2], by simp only [PyData.depthAll]; omega⟩
end
mutual
theorem qv_py : ∀ (d e : D) (n m : Nat) (p q : PyData), okD d n = true → okD e m = true → toPy d = some p → toPy e = some q → PyData.eqv p q = qv d e
  | .tup xs, .tup ys, n, m, p, q, hd, he, hp, hq => by
    simp only [okD, Bool.and_eq_true] at hd he
    obtain ⟨ps, h1, _⟩ := okDs_py xs _ hd.2
    obtain ⟨qs, g1, _⟩ := okDs_py ys _ he.2
    simp only [toPy, h1, g1, Option.some.injEq] at hp hq
    subst hp; subst hq
    simp only [PyData.eqv, qv]
    exact qvs_py xs ys _ _ ps qs hd.2 he.2 h1 g1
  | .fl xs, .fl ys, n, m, p, q, hd, he, hp, hq => by
    simp only [okD, Bool.and_eq_true] at hd he
    obtain ⟨ps, h1, _⟩ := okDs_py xs _ hd.2
    obtain ⟨qs, g1, _⟩ := okDs_py ys _ he.2
    simp only [toPy, h1, g1, Option.some.injEq] at hp hq
    subst hp; subst hq
    simp only [PyData.eqv, qv]
    exact qvs_py xs ys _ _ ps qs hd.2 he.2 h1 g1
  | .non, .non, n, m, p, q, hd, he, hp, hq => by simp only [toPy, Option.some.injEq] at hp; simp only [toPy, Option.some.injEq] at hq; subst hp; subst hq; simp only [PyData.eqv, qv, Bool.beq_eq_decide_eq]
  | .non, .bl b, n, m, p, q, hd, he, hp, hq => by simp only [toPy, Option.some.injEq] at hp; simp only [toPy, Option.some.injEq] at hq; subst hp; subst hq; simp only [PyData.eqv, qv, Bool.beq_eq_decide_eq]
  | .non, .int b, n, m, p, q, hd, he, hp, hq => by simp only [toPy, Option.some.injEq] at hp; simp only [toPy, Option.some.injEq] at hq; subst hp; subst hq; simp only [PyData.eqv, qv, Bool.beq_eq_decide_eq]
  | .non, .str b, n, m, p, q, hd, he, hp, hq => by simp only [toPy, Option.some.injEq] at hp; simp only [toPy, Option.some.injEq] at hq; subst hp; subst hq; simp only [PyData.eqv, qv, Bool.beq_eq_decide_eq]
  | .non, .tup b, n, m, p, q, hd, he, hp, hq => by simp only [toPy, Option.some.injEq] at hp; obtain ⟨qs, g1, _⟩ := okDs_py b _ (by simp only [okD, Bool.and_eq_true] at he; exact he.2); simp only [toPy, g1, Option.some.injEq] at hq; subst hp; subst hq; simp only [PyData.eqv, qv, Bool.beq_eq_decide_eq]
  | .non, .fl b, n, m, p, q, hd, he, hp, hq => by simp only [toPy, Option.some.injEq] at hp; obtain ⟨qs, g1, _⟩ := okDs_py b _ (by simp only [okD, Bool.and_eq_true] at he; exact he.2); simp only [toPy, g1, Option.some.injEq] at hq; subst hp; subst hq; simp only [PyData.eqv, qv, Bool.beq_eq_decide_eq]
  | .non, .scr b, n, m, p, q, hd, he, hp, hq => by simp only [okD, Bool.false_eq_true] at he
  | .non, .ref b, n, m, p, q, hd, he, hp, hq => by simp only [okD, Bool.false_eq_true] at he
  | .bl a, .non, n, m, p, q, hd, he, hp, hq => by simp only [toPy, Option.some.injEq] at hp; simp only [toPy, Option.some.injEq] at hq; subst hp; subst hq; simp only [PyData.eqv, qv, Bool.beq_eq_decide_eq]
  | .bl a, .bl b, n, m, p, q, hd, he, hp, hq => by simp only [toPy, Option.some.injEq] at hp; simp only [toPy, Option.some.injEq] at hq; subst hp; subst hq; simp only [PyData.eqv, qv, Bool.beq_eq_decide_eq]
  | .bl a, .int b, n, m, p, q, hd, he, hp, hq => by simp only [toPy, Option.some.injEq] at hp; simp only [toPy, Option.some.injEq] at hq; subst hp; subst hq; simp only [PyData.eqv, qv, Bool.beq_eq_decide_eq]
  | .bl a, .str b, n, m, p, q, hd, he, hp, hq => by simp only [toPy, Option.some.injEq] at hp; simp only [toPy, Option.some.injEq] at hq; subst hp; subst hq; simp only [PyData.eqv, qv, Bool.beq_eq_decide_eq]
  | .bl a, .tup b, n, m, p, q, hd, he, hp, hq => by simp only [toPy, Option.some.injEq] at hp; obtain ⟨qs, g1, _⟩ := okDs_py b _ (by simp only [okD, Bool.and_eq_true] at he; exact he.2); simp only [toPy, g1, Option.some.injEq] at hq; subst hp; subst hq; simp only [PyData.eqv, qv, Bool.beq_eq_decide_eq]
  | .bl a, .fl b, n, m, p, q, hd, he, hp, hq => by simp only [toPy, Option.some.injEq] at hp; obtain ⟨qs, g1, _⟩ := okDs_py b _ (by simp only [okD, Bool.and_eq_true] at he; exact he.2); simp only [toPy, g1, Option.some.injEq] at hq; subst hp; subst hq; simp only [PyData.eqv, qv, Bool.beq_eq_decide_eq]
  | .bl a, .scr b, n, m, p, q, hd, he, hp, hq => by simp only [okD, Bool.false_eq_true] at he
  | .bl a, .ref b, n, m, p, q, hd, he, hp, hq => by simp only [okD, Bool.false_eq_true] at he
  | .int a, .non, n, m, p, q, hd, he, hp, hq => by simp only [toPy, Option.some.injEq] at hp; simp only [toPy, Option.some.injEq] at hq; subst hp; subst hq; simp only [PyData.eqv, qv, Bool.beq_eq_decide_eq]
  | .int a, .bl b, n, m, p, q, hd, he, hp, hq => by simp only [toPy, Option.some.injEq] at hp; simp only [toPy, Option.some.injEq] at hq; subst hp; subst hq; simp only [PyData.eqv, qv, Bool.beq_eq_decide_eq]
  | .int a, .int b, n, m, p, q, hd, he, hp, hq => by simp only [toPy, Option.some.injEq] at hp; simp only [toPy, Option.some.injEq] at hq; subst hp; subst hq; simp only [PyData.eqv, qv, Bool.beq_eq_decide_eq]
  | .int a, .str b, n, m, p, q, hd, he, hp, hq => by simp only [toPy, Option.some.injEq] at hp; simp only [toPy, Option.some.injEq] at hq; subst hp; subst hq; simp only [PyData.eqv, qv, Bool.beq_eq_decide_eq]
  | .int a, .tup b, n, m, p, q, hd, he, hp, hq => by simp only [toPy, Option.some.injEq] at hp; obtain ⟨qs, g1, _⟩ := okDs_py b _ (by simp only [okD, Bool.and_eq_true] at he; exact he.2); simp only [toPy, g1, Option.some.injEq] at hq; subst hp; subst hq; simp only [PyData.eqv, qv, Bool.beq_eq_decide_eq]
  | .int a, .fl b, n, m, p, q, hd, he, hp, hq => by simp only [toPy, Option.some.injEq] at hp; obtain ⟨qs, g1, _⟩ := okDs_py b _ (by simp only [okD, Bool.and_eq_true] at he; exact he.2); simp only [toPy, g1, Option.some.injEq] at hq; subst hp; subst hq; simp only [PyData.eqv, qv, Bool.beq_eq_decide_eq]
  | .int a, .scr b, n, m, p, q, hd, he, hp, hq => by simp only [okD, Bool.false_eq_true] at he
  | .int a, .ref b, n, m, p, q, hd, he, hp, hq => by simp only [okD, Bool.false_eq_true] at he
  | .str a, .non, n, m, p, q, hd, he, hp, hq => by simp only [toPy, Option.some.injEq] at hp; simp only [toPy, Option.some.injEq] at hq; subst hp; subst hq; simp only [PyData.eqv, qv, Bool.beq_eq_decide_eq]
  | .str a, .bl b, n, m, p, q, hd, he, hp, hq => by simp only [toPy, Option.some.injEq] at hp; simp only [toPy, Option.some.injEq] at hq; subst hp; subst hq; simp only [PyData.eqv, qv, Bool.beq_eq_decide_eq]
  | .str a, .int b, n, m, p, q, hd, he, hp, hq => by simp only [toPy, Option.some.injEq] at hp; simp only [toPy, Option.some.injEq] at hq; subst hp; subst hq; simp only [PyData.eqv, qv, Bool.beq_eq_decide_eq]
  | .str a, .str b, n, m, p, q, hd, he, hp, hq => by simp only [toPy, Option.some.injEq] at hp; simp only [toPy, Option.some.injEq] at hq; subst hp; subst hq; simp only [PyData.eqv, qv, Bool.beq_eq_decide_eq]
  | .str a, .tup b, n, m, p, q, hd, he, hp, hq => by simp only [toPy, Option.some.injEq] at hp; obtain ⟨qs, g1, _⟩ := okDs_py b _ (by simp only [okD, Bool.and_eq_true] at he; exact he.2); simp only [toPy, g1, Option.some.injEq] at hq; subst hp; subst hq; simp only [PyData.eqv, qv, Bool.beq_eq_decide_eq]
  | .str a, .fl b, n, m, p, q, hd, he, hp, hq => by simp only [toPy, Option.some.injEq] at hp; obtain ⟨qs, g1, _⟩ := okDs_py b _ (by simp only [okD, Bool.and_eq_true] at he; exact he.2); simp only [toPy, g1, Option.some.injEq] at hq; subst hp; subst hq; simp only [PyData.eqv, qv, Bool.beq_eq_decide_eq]
  | .str a, .scr b, n, m, p, q, hd, he, hp, hq => by simp only [okD, Bool.false_eq_true] at he
  | .str a, .ref b, n, m, p, q, hd, he, hp, hq => by simp only [okD, Bool.false_eq_true] at he
  | .tup a, .non, n, m, p, q, hd, he, hp, hq => by obtain ⟨ps, h1, _⟩ := okDs_py a _ (by simp only [okD, Bool.and_eq_true] at hd; exact hd.2); simp only [toPy, h1, Option.some.injEq] at hp; simp only [toPy, Option.some.injEq] at hq; subst hp; subst hq; simp only [PyData.eqv, qv, Bool.beq_eq_decide_eq]
  | .tup a, .bl b, n, m, p, q, hd, he, hp, hq => by obtain ⟨ps, h1, _⟩ := okDs_py a _ (by simp only [okD, Bool.and_eq_true] at hd; exact hd.2); simp only [toPy, h1, Option.some.injEq] at hp; simp only [toPy, Option.some.injEq] at hq; subst hp; subst hq; simp only [PyData.eqv, qv, Bool.beq_eq_decide_eq]
  | .tup a, .int b, n, m, p, q, hd, he, hp, hq => by obtain ⟨ps, h1, _⟩ := okDs_py a _ (by simp only [okD, Bool.and_eq_true] at hd; exact hd.2); simp only [toPy, h1, Option.some.injEq] at hp; simp only [toPy, Option.some.injEq] at hq; subst hp; subst hq; simp only [PyData.eqv, qv, Bool.beq_eq_decide_eq]
  | .tup a, .str b, n, m, p, q, hd, he, hp, hq => by obtain ⟨ps, h1, _⟩ := okDs_py a _ (by simp only [okD, Bool.and_eq_true] at hd; exact hd.2); simp only [toPy, h1, Option.some.injEq] at hp; simp only [toPy, Option.some.injEq] at hq; subst hp; subst hq; simp only [PyData.eqv, qv, Bool.beq_eq_decide_eq]
  | .tup a, .fl b, n, m, p, q, hd, he, hp, hq => by obtain ⟨ps, h1, _⟩ := okDs_py a _ (by simp only [okD, Bool.and_eq_true] at hd; exact hd.2); simp only [toPy, h1, Option.some.injEq] at hp; obtain ⟨qs, g1, _⟩ := okDs_py b _ (by simp only [okD, Bool.and_eq_true] at he; exact he.2); simp only [toPy, g1, Option.some.injEq] at hq; subst hp; subst hq; simp only [PyData.eqv, qv, Bool.beq_eq_decide_eq]
  | .tup a, .scr b, n, m, p, q, hd, he, hp, hq => by simp only [okD, Bool.false_eq_true] at he
  | .tup a, .ref b, n, m, p, q, hd, he, hp, hq => by simp only [okD, Bool.false_eq_true] at he
  | .fl a, .non, n, m, p, q, hd, he, hp, hq => by obtain ⟨ps, h1, _⟩ := okDs_py a _ (by simp only [okD, Bool.and_eq_true] at hd; exact hd.2); simp only [toPy, h1, Option.some.injEq] at hp; simp only [toPy, Option.some.injEq] at hq; subst hp; subst hq; simp only [PyData.eqv, qv, Bool.beq_eq_decide_eq]
  | .fl a, .bl b, n, m, p, q, hd, he, hp, hq => by obtain ⟨ps, h1, _⟩ := okDs_py a _ (by simp only [okD, Bool.and_eq_true] at hd; exact hd.2); simp only [toPy, h1, Option.some.injEq] at hp; simp only [toPy, Option.some.injEq] at hq; subst hp; subst hq; simp only [PyData.eqv, qv, Bool.beq_eq_decide_eq]
  | .fl a, .int b, n, m, p, q, hd, he, hp, hq => by obtain ⟨ps, h1, _⟩ := okDs_py a _ (by simp only [okD, Bool.and_eq_true] at hd; exact hd.2); simp only [toPy, h1, Option.some.injEq] at hp; simp only [toPy, Option.some.injEq] at hq; subst hp; subst hq; simp only [PyData.eqv, qv, Bool.beq_eq_decide_eq]
  | .fl a, .str b, n, m, p, q, hd, he, hp, hq => by obtain ⟨ps, h1, _⟩ := okDs_py a _ (by simp only [okD, Bool.and_eq_true] at hd; exact hd.2); simp only [toPy, h1, Option.some.injEq] at hp; simp only [toPy, Option.some.injEq] at hq; subst hp; subst hq; simp only [PyData.eqv, qv, Bool.beq_eq_decide_eq]
  | .fl a, .tup b, n, m, p, q, hd, he, hp, hq => by obtain ⟨ps, h1, _⟩ := okDs_py a _ (by simp only [okD, Bool.and_eq_true] at hd; exact hd.2); simp only [toPy, h1, Option.some.injEq] at hp; obtain ⟨qs, g1, _⟩ := okDs_py b _ (by simp only [okD, Bool.and_eq_true] at he; exact he.2); simp only [toPy, g1, Option.some.injEq] at hq; subst hp; subst hq; simp only [PyData.eqv, qv, Bool.beq_eq_decide_eq]
  | .fl a, .scr b, n, m, p, q, hd, he, hp, hq => by simp only [okD, Bool.false_eq_true] at he
  | .fl a, .ref b, n, m, p, q, hd, he, hp, hq => by simp only [okD, Bool.false_eq_true] at he
  | .scr a, .non, n, m, p, q, hd, he, hp, hq => by simp only [okD, Bool.false_eq_true] at hd
  | .scr a, .bl b, n, m, p, q, hd, he, hp, hq => by simp only [okD, Bool.false_eq_true] at hd
  | .scr a, .int b, n, m, p, q, hd, he, hp, hq => by simp only [okD, Bool.false_eq_true] at hd
  | .scr a, .str b, n, m, p, q, hd, he, hp, hq => by simp only [okD, Bool.false_eq_true] at hd
  | .scr a, .tup b, n, m, p, q, hd, he, hp, hq => by simp only [okD, Bool.false_eq_true] at hd
  | .scr a, .fl b, n, m, p, q, hd, he, hp, hq => by simp only [okD, Bool.false_eq_true] at hd
  | .scr a, .scr b, n, m, p, q, hd, he, hp, hq => by simp only [okD, Bool.false_eq_true] at hd
  | .scr a, .ref b, n, m, p, q, hd, he, hp, hq => by simp only [okD, Bool.false_eq_true] at hd
  | .ref a, .non, n, m, p, q, hd, he, hp, hq => by simp only [okD, Bool.false_eq_true] at hd
  | .ref a, .bl b, n, m, p, q, hd, he, hp, hq => by simp only [okD, Bool.false_eq_true] at hd
  | .ref a, .int b, n, m, p, q, hd, he, hp, hq => by simp only [okD, Bool.false_eq_true] at hd
  | .ref a, .str b, n, m, p, q, hd, he, hp, hq => by simp only [okD, Bool.false_eq_true] at hd
  | .ref a, .tup b, n, m, p, q, hd, he, hp, hq => by simp only [okD, Bool.false_eq_true] at hd
  | .ref a, .fl b, n, m, p, q, hd, he, hp, hq => by simp only [okD, Bool.false_eq_true] at hd
  | .ref a, .scr b, n, m, p, q, hd, he, hp, hq => by simp only [okD, Bool.false_eq_true] at hd
  | .ref a, .ref b, n, m, p, q, hd, he, hp, hq => by simp only [okD, Bool.false_eq_true] at hd
theorem qvs_py : ∀ (d e : List D) (n m : Nat) (p q : List PyData), okDs d n = true → okDs e m = true → toPys d = some p → toPys e = some q → PyData.eqvAll p q = qvs d e
  | [], [], _, _, p, q, _, _, hp, hq => by
    simp only [toPys, Option.some.injEq] at hp hq
    subst hp; subst hq
    simp only [PyData.eqvAll, qvs]
  | x :: xs, [], n, m, p, q, hd, he, hp, hq => by
    simp only [okDs, Bool.and_eq_true] at hd
    obtain ⟨a, h1, _⟩ := okD_py x _ hd.1
    obtain ⟨as, h2, _⟩ := okDs_py xs _ hd.2
    simp only [toPys, h1, h2, Option.some.injEq] at hp hq
    subst hp; subst hq
    simp only [PyData.eqvAll, qvs]
  | [], x :: xs, n, m, p, q, hd, he, hp, hq => by
    simp only [okDs, Bool.and_eq_true] at he
    obtain ⟨a, h1, _⟩ := okD_py x _ he.1
    obtain ⟨as, h2, _⟩ := okDs_py xs _ he.2
    simp only [toPys, h1, h2, Option.some.injEq] at hp hq
    subst hp; subst hq
    simp only [PyData.eqvAll, qvs]
  | x :: xs, y :: ys, n, m, p, q, hd, he, hp, hq => by
    simp only [okDs, Bool.and_eq_true] at hd he
    obtain ⟨a, h1, _⟩ := okD_py x _ hd.1
    obtain ⟨as, h2, _⟩ := okDs_py xs _ hd.2
    obtain ⟨b, g1, _⟩ := okD_py y _ he.1
    obtain ⟨bs, g2, _⟩ := okDs_py ys _ he.2
    simp only [toPys, h1, h2, g1, g2, Option.some.injEq] at hp hq
    subst hp; subst hq
    simp only [PyData.eqvAll, qvs]
    rw [qv_py x y _ _ a b hd.1 he.1 h1 g1, qvs_py xs ys _ _ as bs hd.2 he.2 h2 g2]
end
theorem shaped_of {d : D} {n : Nat} (hn : n ≤ 64) (h : okD d n = true) : ∃ p, toPy d = some p ∧ SeqAt.shaped p = true := by
  obtain ⟨p, h1, h2, h3⟩ := okD_py d n h
  refine ⟨p, h1, ?_⟩
  unfold SeqAt.shaped
  rw [h2, decide_eq_true (by omega)]
  rfl
theorem frz1_ok {S : Store} {d : D} {n : Nat} (h : okD d n = true) : frz1 S d = d := by
  cases d with
  | ref k => simp [okD] at h
  | _ => rfl
theorem frz1_lst {S : Store} {n : Nat} {ds : List D} (e : S[n]? = some (.lst ds)) : frz1 S (.ref n) = .fl ds := by
  unfold frz1
  simp only [e]
theorem eqP_at {S : Store} {d e d' e' : D} {R : Bool → Prop} (f1 : frz1 S d = d') (f2 : frz1 S e = e') (h1 : okD d' 60 = true) (h2 : okD e' 60 = true) (h : R (qv d' e')) : eqP S d e R := by
  obtain ⟨p, a1, a2⟩ := shaped_of (by decide) h1
  obtain ⟨q, b1, b2⟩ := shaped_of (by decide) h2
  unfold eqP
  rw [f1, f2, a1, b1]
  refine ⟨a2, b2, ?_⟩
  rw [qv_py d' e' _ _ p q h1 h2 a1 b1]
  exact h
theorem eqP_of {S : Store} {d e : D} {R : Bool → Prop} (h1 : okD d 60 = true) (h2 : okD e 60 = true) (h : R (qv d e)) : eqP S d e R := eqP_at (frz1_ok h1) (frz1_ok h2) h1 h2 h
theorem cmpP_eqOf {S : Store} {d e : D} {b : Bool} {R : Bool → Prop} (h1 : okD d 60 = true) (h2 : okD e 60 = true) (hq : qv d e = b) (h : R b) : cmpP S .Eq d e R := by
  subst hq
  exact eqP_of (S := S) h1 h2 h
theorem cmpP_neOf {S : Store} {d e : D} {b : Bool} {R : Bool → Prop} (h1 : okD d 60 = true) (h2 : okD e 60 = true) (hq : qv d e = b) (h : R (!b)) : cmpP S .NotEq d e R := by
  subst hq
  exact eqP_of (S := S) (R := fun b => R (!b)) h1 h2 h
theorem any_qv {x : D} {a : PyData} (hx : okD x 60 = true) (ha : toPy x = some a) : ∀ {ds : List D} {bs : List PyData}, okDs ds 60 = true → toPys ds = some bs → (bs.any fun z => PyData.eqv z a) = ds.any fun z => qv z x
  | [], bs, _, h => by
    simp only [toPys, Option.some.injEq] at h
    subst h; rfl
  | d :: ds, bs, hd, h => by
    simp only [okDs, Bool.and_eq_true] at hd
    obtain ⟨a1, h1, _⟩ := okD_py d _ hd.1
    obtain ⟨as, h2, _⟩ := okDs_py ds _ hd.2
    simp only [toPys, h1, h2, Option.some.injEq] at h
    subst h
    rw [List.any_cons, List.any_cons, any_qv hx ha hd.2 h2, qv_py d x _ _ a1 a hd.1 hx h1 ha]
theorem inP_fl {S : Store} {x : D} {ds : List D} {R : Bool → Prop} (h1 : okD x 60 = true) (h2 : okDs ds 60 = true) (h : R (ds.any fun z => qv z x)) : inP S x (.fl ds) R := by
  obtain ⟨a, a1, a2⟩ := shaped_of (by decide) h1
  obtain ⟨bs, b1, b2, b3⟩ := okDs_py ds _ h2
  refine ⟨a, bs, a1, b1, a2, ?_, ?_⟩
  · have e1 : (PyData.list bs).canLay0 = true := by simpa only [PyData.canLay0] using b2
    have e2 : (PyData.list bs).depth ≤ 64 := by simp only [PyData.depth]; omega
    unfold SeqAt.shaped
    rw [e1, decide_eq_true e2]
    rfl
  · rw [any_qv h1 a1 h2 b1]; exact h
theorem inP_lst {S : Store} {n : Nat} {x : D} {ds : List D} {R : Bool → Prop} (e : S[n]? = some (.lst ds)) (h1 : okD x 60 = true) (h2 : okDs ds 60 = true) (h : R (ds.any fun z => qv z x)) : inP S x (.ref n) R := by
  unfold inP
  simp only [e]
  exact inP_fl (S := S) h1 h2 h
theorem okDs_map {α : Type} {enc : α → D} {n : Nat} (h : ∀ x, okD (enc x) n = true) : ∀ l : List α, okDs (l.map enc) n = true
  | [] => rfl
  | a :: l => by rw [List.map_cons]; simp only [okDs, h, okDs_map h l, Bool.and_self]
theorem okDs_of {α : Type} {enc : α → D} {n : Nat} : ∀ {l : List α}, (∀ x ∈ l, okD (enc x) n = true) → okDs (l.map enc) n = true
  | [], _ => rfl
  | a :: l, h => by rw [List.map_cons]; simp only [okDs, h a List.mem_cons_self, okDs_of fun x hx => h x (List.mem_cons_of_mem _ hx), Bool.and_self]
theorem okD_eN (n k : Nat) : okD (eN n) k = true := by simp only [eN, okD]
theorem okD_eL (l : List Nat) (k : Nat) : okD (eL l) (k + 1) = true := by simp only [eL, okD, Nat.zero_lt_succ, decide_true, Nat.add_sub_cancel, okDs_map (fun x => okD_eN x k), Bool.and_self]
theorem okD_fL (l : List Nat) (k : Nat) : okD (fL l) (k + 1) = true := by simp only [fL, okD, Nat.zero_lt_succ, decide_true, Nat.add_sub_cancel, okDs_map (fun x => okD_eN x k), Bool.and_self]
theorem okD_eLL (l : List (List Nat)) (k : Nat) : okD (eLL l) (k + 2) = true := by
  simp only [eLL, okD, Nat.zero_lt_succ, decide_true, Bool.true_and]
  exact okDs_map (fun x => okD_eL x k) l
theorem qv_eN (a b : Nat) : qv (eN a) (eN b) = decide (a = b) := by
  simp only [eN, qv]
  rw [decide_eq_decide]; omega
theorem qvs_map {α : Type} [DecidableEq α] {enc : α → D} (h : ∀ x y, qv (enc x) (enc y) = decide (x = y)) : ∀ l m : List α, qvs (l.map enc) (m.map enc) = decide (l = m)
  | [], [] => rfl
  | [], _ :: _ => rfl
  | _ :: _, [] => rfl
  | a :: l, b :: m => by
    rw [List.map_cons, List.map_cons]
    simp only [qvs]
    rw [h, qvs_map h l m, Bool.eq_iff_iff]
    simp
theorem qv_eL (a b : List Nat) : qv (eL a) (eL b) = decide (a = b) := by
  simp only [eL, qv]
  exact qvs_map qv_eN a b
theorem qv_fL (a b : List Nat) : qv (fL a) (fL b) = decide (a = b) := by
  simp only [fL, qv]
  exact qvs_map qv_eN a b
theorem qv_eLL (a b : List (List Nat)) : qv (eLL a) (eLL b) = decide (a = b) := by
  simp only [eLL, qv]
  exact qvs_map qv_eL a b
theorem any_map {α : Type} [BEq α] [LawfulBEq α] [DecidableEq α] {enc : α → D} (h : ∀ x y, qv (enc x) (enc y) = decide (x = y)) (l : List α) (x : α) : ((l.map enc).any fun z => qv z (enc x)) = l.contains x := by
  rw [List.any_map, Bool.eq_iff_iff, List.any_eq_true, List.contains_iff_mem]
  constructor
  · rintro ⟨y, hy, e⟩
    have : qv (enc y) (enc x) = true := e
    rw [h, decide_eq_true_eq] at this
    rw [← this]; exact hy
  · intro hx
    refine ⟨x, hx, ?_⟩
    show qv (enc x) (enc x) = true
    rw [h, decide_eq_true rfl]
theorem inP_flN {S : Store} {i : Nat} {l : List Nat} {R : Bool → Prop} (h : R (l.contains i)) : inP S (eN i) (.fl (l.map eN)) R :=
  inP_fl (okD_eN i _) (okDs_map (fun x => okD_eN x _) l) (by rw [any_map qv_eN]; exact h)
theorem inP_lstN {S : Store} {n i : Nat} {l : List Nat} {R : Bool → Prop} (e : S[n]? = some (.lst (l.map eN))) (h : R (l.contains i)) : inP S (eN i) (.ref n) R :=
  inP_lst e (okD_eN i _) (okDs_map (fun x => okD_eN x _) l) (by rw [any_map qv_eN]; exact h)
theorem inP_tupN {S : Store} {i : Nat} {l : List Nat} {R : Bool → Prop} (h : R (l.contains i)) : inP S (eN i) (.tup (l.map eN)) R :=
  .inl ⟨i, _, rfl, ints_eN l, by rw [in_cast]; exact h⟩
theorem inP_tupD {S : Store} {x : D} {ds : List D} {R : Bool → Prop} (h1 : okD x 60 = true) (h2 : okDs ds 60 = true) (h : R (ds.any fun z => qv z x)) : inP S x (.tup ds) R := by
  obtain ⟨a, a1, a2⟩ := shaped_of (by decide) h1
  obtain ⟨bs, b1, b2, b3⟩ := okDs_py ds _ h2
  refine .inr ⟨a, bs, a1, b1, a2, ?_, ?_⟩
  · have e1 : (PyData.tuple bs).canLay0 = true := by simpa only [PyData.canLay0] using b2
    have e2 : (PyData.tuple bs).depth ≤ 64 := by simp only [PyData.depth]; omega
    unfold SeqAt.shaped
    rw [e1, decide_eq_true e2]
    rfl
  · rw [any_qv h1 a1 h2 b1]; exact h

/-! ### sorted -/
def insN (i : Nat) : List Nat → List Nat
  | [] => [i]
  | j :: r => if i ≤ j then i :: j :: r else j :: insN i r
def sortN (ns : List Nat) : List Nat := ns.foldr insN []
theorem insI_nat (i : Nat) : ∀ l : List Nat, insI (i : Int) (l.map fun n : Nat => (n : Int)) = (insN i l).map fun n : Nat => (n : Int)
  | [] => rfl
  | j :: r => by
    show (if (i : Int) ≤ (j : Int) then _ else _) = _
    unfold insN
    by_cases h : i ≤ j
    · rw [if_pos h, if_pos (by omega)]; rfl
    · rw [if_neg h, if_neg (by omega), insI_nat i r]; rfl
theorem sortI_nat : ∀ l : List Nat, sortI (l.map fun n : Nat => (n : Int)) = (sortN l).map fun n : Nat => (n : Int)
  | [] => rfl
  | i :: l => by
    show insI (i : Int) (sortI (l.map fun n : Nat => (n : Int))) = _
    rw [sortI_nat l, insI_nat]
    rfl
theorem insN_perm (i : Nat) : ∀ l : List Nat, (insN i l).Perm (i :: l)
  | [] => .refl _
  | j :: r => by
    unfold insN
    by_cases h : i ≤ j
    · rw [if_pos h]
    · rw [if_neg h]
      exact ((insN_perm i r).cons j).trans (.swap i j r)
theorem sortN_perm : ∀ l : List Nat, (sortN l).Perm l
  | [] => .refl _
  | i :: l => (insN_perm i (sortN l)).trans ((sortN_perm l).cons i)
theorem sortN_mem {x : Nat} {l : List Nat} : x ∈ sortN l ↔ x ∈ l := (sortN_perm l).mem_iff
theorem sortN_length (l : List Nat) : (sortN l).length = l.length := (sortN_perm l).length_eq
theorem sorted_cast (l : List Nat) : (sortI (l.map fun n : Nat => (n : Int))).map D.int = (sortN l).map eN := by
  rw [sortI_nat, List.map_map]; rfl
theorem biP_sortT {S : Store} {l : List Nat} {R : D → Prop} (h : R (.fl ((sortN l).map eN))) : biP S .sorted [.tup (l.map eN)] R := ⟨_, _, rfl, ints_eN l, by rw [sorted_cast]; exact h⟩
theorem biP_sortF {S : Store} {l : List Nat} {R : D → Prop} (h : R (.fl ((sortN l).map eN))) : biP S .sorted [.fl (l.map eN)] R := ⟨_, _, rfl, ints_eN l, by rw [sorted_cast]; exact h⟩
theorem biP_sortR {S : Store} {n : Nat} {l : List Nat} {R : D → Prop} (e : S[n]? = some (.lst (l.map eN))) (h : R (.fl ((sortN l).map eN))) : biP S .sorted [.ref n] R := ⟨_, _, by unfold seqOf; simp only [e], ints_eN l, by rw [sorted_cast]; exact h⟩
theorem biP_lenR {S : Store} {n : Nat} {ds : List D} {R : D → Prop} (e : S[n]? = some (.lst ds)) (h : R (.int ds.length)) : biP S .len [.ref n] R := by
  unfold biP; simp only; rw [e]; exact h
theorem at0 {d : D} {ds : List D} : L2.atI (d :: ds) 0 = some d := L2.atI_nat (xs := d :: ds) (j := 0) rfl
theorem at1 {c d : D} {ds : List D} : L2.atI (c :: d :: ds) 1 = some d := L2.atI_nat (xs := c :: d :: ds) (j := 1) rfl
theorem last_get (S : Store) (o : Ob) (ex : Store) : (S ++ o :: ex)[S.length]? = some o := by
  rw [List.getElem?_append_right (Nat.le_refl _), Nat.sub_self]; rfl
theorem last_set (S : Store) (o o' : Ob) (ex : Store) : (S ++ o :: ex).set S.length o' = S ++ o' :: ex := by
  rw [List.set_append_right _ _ (Nat.le_refl _), Nat.sub_self]; rfl
theorem sum_cast {α : Type} (f : α → Nat) : ∀ l : List α, (l.map fun x => (f x : Int)).sum = ((l.map f).sum : Nat)
  | [] => rfl
  | a :: l => by
    rw [List.map_cons, List.sum_cons, sum_cast f l, List.map_cons, List.sum_cons]
    omega
theorem biP_sumF {S : Store} {α : Type} {f : α → Nat} {l : List α} {ds : List D} {R : D → Prop} (e : ds = l.map fun x => eN (f x)) (h : R (eN (l.map f).sum)) : biP S .sum [.fl ds] R := by
  subst e
  refine ⟨_, _, (fun _ z => nomatch z), rfl, ints_map (f := fun x => (f x : Int)) (fun _ => rfl) l, ?_⟩
  rw [sum_cast]
  exact h
end DL

set_option Elab.async false
set_option linter.all false
set_option maxRecDepth 100000
/-! DL22: stores that change. -/
namespace DL
open PySem PySem.Spec PyProof.Rows L2
mutual
theorem below_mono {n m : Nat} (h : n ≤ m) : ∀ d : D, below n d = true → below m d = true
  | .non, _ => by simp only [below]
  | .bl _, _ => by simp only [below]
  | .int _, _ => by simp only [below]
  | .str _, _ => by simp only [below]
  | .scr _, _ => by simp only [below]
  | .tup ds, q => by simp only [below] at q ⊢; exact belows_mono h ds q
  | .fl ds, q => by simp only [below] at q ⊢; exact belows_mono h ds q
  | .ref k, q => by simp only [below, decide_eq_true_eq] at q ⊢; omega
theorem belows_mono {n m : Nat} (h : n ≤ m) : ∀ ds : List D, belows n ds = true → belows m ds = true
  | [], _ => rfl
  | d :: ds, q => by
    simp only [belows, Bool.and_eq_true] at q ⊢
    exact ⟨below_mono h d q.1, belows_mono h ds q.2⟩
end
theorem Ob.below_mono {n m : Nat} (h : n ≤ m) (o : Ob) (q : o.below n = true) : o.below m = true := by
  cases o <;> exact belows_mono h _ q
theorem putFD_len (f : Str) (y : D) : ∀ fs : List (Str × D), (putFD f y fs).length ≤ fs.length + 1
  | [] => Nat.le_refl _
  | p :: r => by
    unfold putFD
    split
    · simp
    · have := putFD_len f y r
      simp only [List.length_cons]
      omega
theorem putFD_lt {f : Str} {y : D} {fs : List (Str × D)} {n : Nat} (h : fs.length < n) : (putFD f y fs).length < n + 1 := by
  have := putFD_len f y fs
  omega
theorem closed_app {S : Store} {o : Ob} (h : closed S) (q : o.below (S.length + 1) = true) : closed (S ++ [o]) := fun x hx => by
  rw [List.length_append, List.length_singleton]
  rcases List.mem_append.mp hx with z | z
  · exact Ob.below_mono (Nat.le_succ _) x (h x z)
  · rw [List.mem_singleton.mp z]; exact q
theorem closed_set {S : Store} {n : Nat} {o : Ob} (h : closed S) (q : o.below S.length = true) : closed (S.set n o) := fun x hx => by
  rw [List.length_set]
  rcases List.mem_or_eq_of_mem_set hx with z | z
  · exact h x z
  · rw [z]; exact q
theorem closed_at {S : Store} {n : Nat} {o : Ob} (h : closed S) (e : S[n]? = some o) : o.below S.length = true := h o (List.mem_of_getElem? e)
theorem set_same {S : Store} {n : Nat} {o : Ob} (e : S[n]? = some o) : S.set n o = S := by
  obtain ⟨h, rfl⟩ := List.getElem?_eq_some_iff.mp e
  exact List.set_getElem_self h
theorem get_lt {S : Store} {n : Nat} {o : Ob} (e : S[n]? = some o) : n < S.length := (List.getElem?_eq_some_iff.mp e).1
theorem get_set {S : Store} {n : Nat} {o o' : Ob} (e : S[n]? = some o) : (S.set n o')[n]? = some o' := List.getElem?_set_self (get_lt e)
theorem get_set_ne {S : Store} {n m : Nat} {o : Ob} (h : n ≠ m) : (S.set n o)[m]? = S[m]? := List.getElem?_set_ne h
theorem get_app {S ex : Store} {n : Nat} {o : Ob} (e : S[n]? = some o) : (S ++ ex)[n]? = some o := by
  rw [List.getElem?_append_left (get_lt e)]; exact e
theorem set_app {S ex : Store} {n : Nat} {o o' : Ob} (e : S[n]? = some o) : (S ++ ex).set n o' = S.set n o' ++ ex := List.set_append_left _ _ (get_lt e)
theorem endP_at {n : Nat} {R : RE} {d : D} {S1 : Store} (hn : n ≤ S1.length) (hc : closed S1) (hb : below S1.length d = true) (h : R d S1) : endP n R d S1 := endP_same hn hc hb h
theorem last_get2 (S : Store) (o o' : Ob) (ex : Store) : (S ++ o :: o' :: ex)[S.length + 1]? = some o' := by
  rw [List.getElem?_append_right (Nat.le_succ _), Nat.succ_sub (Nat.le_refl _), Nat.sub_self]; rfl
theorem last_set2 (S : Store) (o o' o2 : Ob) (ex : Store) : (S ++ o :: o' :: ex).set (S.length + 1) o2 = S ++ o :: o2 :: ex := by
  rw [List.set_append_right _ _ (Nat.le_succ _), Nat.succ_sub (Nat.le_refl _), Nat.sub_self]; rfl
section
variable {b : D → Store → (Option D → Store → Prop) → Prop} {Src : Store → Prop} {K : List D → Store → Prop} {α : Type}
/-- the store moves within I -/
theorem mapP_stO (enc : α → D) (f : α → Option D) (I : Store → Prop) {ds : List D} (xs : List α) (e : ds = xs.map enc) (acc : List D) {S : Store} (h0 : I S) (h : ∀ x ∈ xs, ∀ S, I S → ∀ Q : Option D → Store → Prop, (∀ S', I S' → Q (f x) S') → b (enc x) S Q) (hs : ∀ S, I S → Src S) (hl : acc.length + xs.length ≤ 1000000) (hK : ∀ S, I S → K (acc ++ xs.filterMap f) S) : mapP b Src K ds acc S := by
  subst e
  induction xs generalizing acc S with
  | nil =>
    rw [List.filterMap_nil, List.append_nil] at hK
    exact ⟨hs S h0, hK S h0⟩
  | cons x xs ih =>
    rw [List.length_cons] at hl
    refine ⟨hs S h0, size_lt (by omega), h x List.mem_cons_self S h0 _ fun S' h1 => ?_⟩
    refine ih _ h1 (fun y hy => h y (List.mem_cons_of_mem _ hy)) ?_ ?_
    · cases f x with
      | none => simp only; omega
      | some y => simp only; rw [List.length_append, List.length_singleton]; omega
    · rw [List.filterMap_cons] at hK
      cases hf : f x with
      | none => rw [hf] at hK; exact hK
      | some y => rw [hf] at hK; simp only at hK ⊢; intro S2 h2; rw [List.append_assoc]; exact hK S2 h2
theorem mapP_st (enc : α → D) (f : α → D) (I : Store → Prop) {ds : List D} (xs : List α) (e : ds = xs.map enc) {S : Store} (h0 : I S) (h : ∀ x ∈ xs, ∀ S, I S → ∀ Q : Option D → Store → Prop, (∀ S', I S' → Q (some (f x)) S') → b (enc x) S Q) (hs : ∀ S, I S → Src S) (hl : xs.length ≤ 1000000) (hK : ∀ S, I S → K (xs.map f) S) : mapP b Src K ds [] S := by
  refine mapP_stO enc (fun x => some (f x)) I xs e [] h0 h hs (by simpa using hl) ?_
  rw [List.nil_append, List.filterMap_eq_map']
  exact hK
theorem filterMap_if (p : α → Bool) (f : α → D) (xs : List α) : (xs.filterMap fun x => if p x = true then some (f x) else none) = (xs.filter p).map f := by
  induction xs with
  | nil => rfl
  | cons x xs ih =>
    rw [List.filterMap_cons, List.filter_cons]
    cases p x with
    | true => simp only [if_true]; rw [ih]; rfl
    | false => simp only [Bool.false_eq_true, if_false]; rw [ih]
theorem mapP_stF (enc : α → D) (p : α → Bool) (f : α → D) (I : Store → Prop) {ds : List D} (xs : List α) (e : ds = xs.map enc) {S : Store} (h0 : I S) (h : ∀ x ∈ xs, ∀ S, I S → ∀ Q : Option D → Store → Prop, (∀ S', I S' → Q (if p x = true then some (f x) else none) S') → b (enc x) S Q) (hs : ∀ S, I S → Src S) (hl : xs.length ≤ 1000000) (hK : ∀ S, I S → K ((xs.filter p).map f) S) : mapP b Src K ds [] S := by
  refine mapP_stO enc (fun x => if p x = true then some (f x) else none) I xs e [] h0 h hs (by simpa using hl) ?_
  rw [List.nil_append, filterMap_if]
  exact hK
end
theorem enumD_map {α : Type} (enc : α → D) (d0 : α) : ∀ (k : Nat) (l : List α), enumD k (l.map enc) = (List.range l.length).map fun i => .tup [.int ((k + i : Nat) : Int), enc (l.getD i d0)]
  | k, [] => rfl
  | k, a :: l => by
    rw [List.map_cons]
    show D.tup [.int k, enc a] :: enumD (k + 1) (l.map enc) = _
    rw [enumD_map enc d0 (k + 1) l, List.length_cons, List.range_succ_eq_map, List.map_cons, List.map_map]
    congr 1
    refine List.map_congr_left fun i _ => ?_
    show D.tup [.int ((k + 1 + i : Nat) : Int), _] = D.tup [.int ((k + (i + 1) : Nat) : Int), _]
    rw [show k + 1 + i = k + (i + 1) by omega]
    rfl

/-! ### keys that are tuples -/
theorem toNKs_map {α : Type} {enc : α → D} {f : α → NestedKey} (h : ∀ x, toNK (enc x) = some (f x)) : ∀ l : List α, toNKs (l.map enc) = some (l.map f)
  | [] => rfl
  | a :: l => by
    rw [List.map_cons, List.map_cons]
    simp only [toNKs, h, toNKs_map h l]
def kN (n : Nat) : NestedKey := .num n
def kL (l : List Nat) : NestedKey := .tup (l.map kN)
theorem toNK_eN (n : Nat) : toNK (eN n) = some (kN n) := by simp only [eN, toNK, kN]
theorem toNK_eL (l : List Nat) : toNK (eL l) = some (kL l) := by
  simp only [eL, toNK, toNKs_map toNK_eN l, kL]
theorem depthAll_map {α : Type} {f : α → NestedKey} {n : Nat} (h : ∀ x, (f x).depth ≤ n) : ∀ l : List α, NestedKey.depthAll (l.map f) ≤ n
  | [] => by simp only [List.map_nil, NestedKey.depthAll, Nat.zero_le]
  | a :: l => by
    rw [List.map_cons]
    have := h a
    have := depthAll_map h l
    simp only [NestedKey.depthAll]
    omega
theorem depth_kN (n : Nat) : (kN n).depth = 0 := by simp only [kN, NestedKey.depth]
theorem depth_kL (l : List Nat) : (kL l).depth ≤ 1 := by
  have := depthAll_map (f := kN) (n := 0) (fun x => by rw [depth_kN]; exact Nat.le_refl 0) l
  simp only [kL, NestedKey.depth]
  omega
theorem kN_inj {a b : Nat} (h : kN a = kN b) : a = b := by
  unfold kN at h
  have := NestedKey.num.inj h
  omega
theorem kL_inj {a b : List Nat} (h : kL a = kL b) : a = b := by
  unfold kL at h
  have h := NestedKey.tup.inj h
  induction a generalizing b with
  | nil => cases b with
    | nil => rfl
    | cons y b => cases h
  | cons x a ih => cases b with
    | nil => cases h
    | cons y b =>
      rw [List.map_cons, List.map_cons] at h
      injection h with h1 h2
      rw [kN_inj h1, ih (congrArg NestedKey.tup h2) h2]
section
variable {κ : Type} [DecidableEq κ]
theorem lookD_mem {kvs : List (κ × D)} {k : κ} {d : D} (h : lookD kvs k = some d) : (k, d) ∈ kvs := by
  unfold lookD at h
  cases e : kvs.find? (fun kv => decide (kv.1 = k)) with
  | none => rw [e] at h; cases h
  | some kv =>
    rw [e] at h
    have h1 := List.mem_of_find?_eq_some e
    have h2 := List.find?_some e
    have h3 : kv.2 = d := Option.some.inj h
    rw [decide_eq_true_eq] at h2
    rw [← h2, ← h3]
    exact h1
theorem lookD_none {kvs : List (κ × D)} {k : κ} (h : lookD kvs k = none) : ∀ kv ∈ kvs, kv.1 ≠ k := by
  unfold lookD at h
  rw [Option.map_eq_none_iff, List.find?_eq_none] at h
  intro kv hkv e
  exact h kv hkv (by rw [decide_eq_true_eq]; exact e)
theorem putD_new {kvs : List (κ × D)} {k : κ} {v : D} (h : ∀ kv ∈ kvs, kv.1 ≠ k) : putD kvs k v = kvs ++ [(k, v)] := by
  unfold putD
  rw [if_neg]
  rw [List.any_eq_true]
  rintro ⟨kv, h1, h2⟩
  rw [decide_eq_true_eq] at h2
  exact h kv h1 h2
theorem lookD_snoc {kvs : List (κ × D)} {k : κ} {v : D} (h : ∀ kv ∈ kvs, kv.1 ≠ k) : lookD (kvs ++ [(k, v)]) k = some v := by
  unfold lookD
  rw [List.find?_append, List.find?_eq_none.mpr (fun kv hkv => by rw [decide_eq_true_eq]; exact h kv hkv)]
  simp
theorem lookD_put {kvs : List (κ × D)} {k : κ} {v : D} : lookD (putD kvs k v) k = some v := by
  unfold putD
  split
  · rename_i h
    induction kvs with
    | nil => simp at h
    | cons a r ih =>
      rw [List.map_cons]
      by_cases e : a.1 = k
      · rw [if_pos e]
        unfold lookD
        rw [List.find?_cons_of_pos (by simpa using e)]
        rfl
      · rw [if_neg e]
        unfold lookD
        rw [List.find?_cons_of_neg (by simpa using e)]
        refine ih ?_
        rw [List.any_cons, decide_eq_false e, Bool.false_or] at h
        exact h
  · rename_i h
    refine lookD_snoc fun kv hkv e => h ?_
    rw [List.any_eq_true]
    exact ⟨kv, hkv, by simpa using e⟩
theorem mem_putD {kvs : List (κ × D)} {k : κ} {v : D} {kv : κ × D} (h : kv ∈ putD kvs k v) : kv ∈ kvs ∨ kv = (k, v) := by
  unfold putD at h
  split at h
  · obtain ⟨a, h1, h2⟩ := List.mem_map.mp h
    by_cases e : a.1 = k
    · rw [if_pos e] at h2
      rw [← h2, e]; exact .inr rfl
    · rw [if_neg e] at h2
      rw [← h2]; exact .inl h1
  · rcases List.mem_append.mp h with z | z
    · exact .inl z
    · exact .inr (List.mem_singleton.mp z)
theorem nodup_putD {kvs : List (κ × D)} {k : κ} {v : D} (h : (kvs.map (·.1)).Nodup) : ((putD kvs k v).map (·.1)).Nodup := by
  unfold putD
  split
  · have : (kvs.map fun kv => if kv.1 = k then (kv.1, v) else kv).map (·.1) = kvs.map (·.1) := by
      rw [List.map_map]
      refine List.map_congr_left fun kv _ => ?_
      show (if kv.1 = k then (kv.1, v) else kv).1 = kv.1
      split <;> rfl
    rw [this]; exact h
  · rename_i q
    rw [List.map_append, List.map_cons, List.map_nil, List.nodup_append]
    refine ⟨h, by simp, fun x hx y hy e => ?_⟩
    rw [List.mem_singleton] at hy
    obtain ⟨kv, h1, h2⟩ := List.mem_map.mp hx
    exact q (List.any_eq_true.mpr ⟨kv, h1, by rw [decide_eq_true_eq, h2, e, hy]⟩)
theorem len_putD (kvs : List (κ × D)) (k : κ) (v : D) : (putD kvs k v).length ≤ kvs.length + 1 := by
  unfold putD
  split
  · simp
  · simp
end
section
variable {S : Store} {n : Nat} {lk : Bool} {x v : D}
theorem inP_dctN {kvs : List (NestedKey × D)} {k : NestedKey} {R : Bool → Prop} (e : S[n]? = some (.dctN lk kvs)) (hk : keyN x = some k) (h : R (lookD kvs k).isSome) : inP S x (.ref n) R := by
  unfold inP; simp only [e]; exact ⟨k, hk, h⟩
theorem inP_dct {kvs : List (Key × D)} {k : Key} {R : Bool → Prop} (e : S[n]? = some (.dct lk kvs)) (hk : keyOf x = some k) (h : R (lookD kvs k).isSome) : inP S x (.ref n) R := by
  unfold inP; simp only [e]; exact ⟨k, hk, h⟩
theorem ixP_dctN {kvs : List (NestedKey × D)} {k : NestedKey} {R : D → Prop} (e : S[n]? = some (.dctN lk kvs)) (hk : keyN x = some k) (hd : lookD kvs k = some v) (h : R v) : ixP S (.ref n) x R := by
  unfold ixP; simp only [e]; exact ⟨k, v, hk, hd, h⟩
theorem ixP_dct {kvs : List (Key × D)} {k : Key} {R : D → Prop} (e : S[n]? = some (.dct lk kvs)) (hk : keyOf x = some k) (hd : lookD kvs k = some v) (h : R v) : ixP S (.ref n) x R := by
  unfold ixP; simp only [e]; exact ⟨k, v, hk, hd, h⟩
theorem ixP_lst {ds : List D} {i : Int} {R : D → Prop} (e : S[n]? = some (.lst ds)) (hd : L2.atI ds i = some v) (h : R v) : ixP S (.ref n) (.int i) R := by
  unfold ixP; simp only [e]; exact ⟨i, v, rfl, hd, h⟩
theorem putP_dctN {kvs : List (NestedKey × D)} {k : NestedKey} {R : Store → Prop} (e : S[n]? = some (.dctN false kvs)) (hk : keyN x = some k) (hl : kvs.length ≤ 1000000) (h : R (S.set n (.dctN false (putD kvs k v)))) : putP S (.ref n) x v R := by
  unfold putP; simp only [e]; exact ⟨k, hk, size_lt hl, h⟩
theorem putP_dct {kvs : List (Key × D)} {k : Key} {R : Store → Prop} (e : S[n]? = some (.dct false kvs)) (hk : keyOf x = some k) (hl : kvs.length ≤ 1000000) (h : R (S.set n (.dct false (putD kvs k v)))) : putP S (.ref n) x v R := by
  unfold putP; simp only [e]; exact ⟨k, hk, size_lt hl, h⟩
theorem putP_lst {ds : List D} {i : Nat} {R : Store → Prop} (e : S[n]? = some (.lst ds)) (hi : i < ds.length) (h : R (S.set n (.lst (ds.set i v)))) : putP S (.ref n) (.int (i : Int)) v R := by
  unfold putP; simp only [e]
  refine ⟨_, i, rfl, ?_, h⟩
  unfold ixN
  rw [if_pos (by omega), if_pos (by omega)]
  simp
end
theorem flatMap_len {α β : Type} {f : α → List β} {c : Nat} : ∀ {l : List α}, (∀ x ∈ l, (f x).length ≤ c) → (l.flatMap f).length ≤ l.length * c
  | [], _ => by simp
  | a :: l, h => by
    rw [List.flatMap_cons, List.length_append, List.length_cons, Nat.add_mul]
    have h1 := h a List.mem_cons_self
    have h2 := flatMap_len (l := l) fun x hx => h x (List.mem_cons_of_mem _ hx)
    omega
/-- all choices out of the numbers below n, in order -/
def subs : Nat → List (List Nat)
  | 0 => [[]]
  | n + 1 => subs n ++ (subs n).map (· ++ [n])
theorem subs_len : ∀ n, (subs n).length = 2 ^ n
  | 0 => rfl
  | n + 1 => by
    show (subs n ++ (subs n).map (· ++ [n])).length = _
    rw [List.length_append, List.length_map, subs_len n]
    omega
theorem filter_subs (p : Nat → Bool) : ∀ n, (List.range n).filter p ∈ subs n
  | 0 => List.mem_singleton.mpr rfl
  | n + 1 => by
    show _ ∈ subs n ++ (subs n).map (· ++ [n])
    rw [List.range_succ, List.filter_append, List.mem_append]
    cases h : p n with
    | true =>
      refine .inr (List.mem_map.mpr ⟨_, filter_subs p n, ?_⟩)
      rw [List.filter_cons_of_pos h]; rfl
    | false =>
      refine .inl ?_
      rw [List.filter_cons_of_neg (by rw [h]; decide), List.filter_nil, List.append_nil]
      exact filter_subs p n
end DL

set_option Elab.async false
set_option linter.all false
set_option maxRecDepth 100000
/-! DL23: what the laws' texts share. -/
namespace DL
open PySem PySem.Spec PyProof.Rows L2
def Inc (l : List Nat) : Prop := l.Pairwise (· < ·)
theorem nodup_le {α : Type} [DecidableEq α] : ∀ {l m : List α}, l.Nodup → (∀ x ∈ l, x ∈ m) → l.length ≤ m.length
  | [], m, _, _ => Nat.zero_le _
  | a :: l, m, hn, hs => by
    rw [List.nodup_cons] at hn
    have ha := hs a List.mem_cons_self
    have h := nodup_le (l := l) (m := m.erase a) hn.2 fun x hx => by
      rw [List.mem_erase_of_ne (fun e => hn.1 (by rw [← e]; exact hx))]
      exact hs x (List.mem_cons_of_mem _ hx)
    rw [List.length_erase_of_mem ha] at h
    have := List.length_pos_of_mem ha
    rw [List.length_cons]
    omega
theorem sorted_uniq : ∀ {xs ys : List Nat}, Inc xs → Inc ys → (∀ x, x ∈ xs ↔ x ∈ ys) → xs = ys
  | [], [], _, _, _ => rfl
  | [], y :: ys, _, _, h => by have := (h y).mpr List.mem_cons_self; cases this
  | x :: xs, [], _, _, h => by have := (h x).mp List.mem_cons_self; cases this
  | x :: xs, y :: ys, hx, hy, h => by
    unfold Inc at hx hy
    rw [List.pairwise_cons] at hx hy
    have e : x = y := by
      rcases List.mem_cons.mp ((h x).mp List.mem_cons_self) with e | h1
      · exact e
      · rcases List.mem_cons.mp ((h y).mpr List.mem_cons_self) with e | h2
        · exact e.symm
        · have := hx.1 y h2
          have := hy.1 x h1
          omega
    subst e
    rw [sorted_uniq hx.2 hy.2 fun z => ?_]
    constructor
    · intro hz
      rcases List.mem_cons.mp ((h z).mp (List.mem_cons_of_mem _ hz)) with e | h1
      · have := hx.1 z hz; omega
      · exact h1
    · intro hz
      rcases List.mem_cons.mp ((h z).mpr (List.mem_cons_of_mem _ hz)) with e | h1
      · have := hy.1 z hz; omega
      · exact h1
theorem insN_inc {i : Nat} : ∀ {l : List Nat}, Inc l → i ∉ l → Inc (insN i l)
  | [], _, _ => List.pairwise_singleton _ _
  | j :: r, h, hn => by
    unfold Inc at h
    rw [List.pairwise_cons] at h
    rw [List.mem_cons, not_or] at hn
    unfold insN Inc
    by_cases hij : i ≤ j
    · rw [if_pos hij, List.pairwise_cons, List.pairwise_cons]
      refine ⟨fun x hx => ?_, h⟩
      rcases List.mem_cons.mp hx with e | hx
      · omega
      · have := h.1 x hx; omega
    · rw [if_neg hij, List.pairwise_cons]
      refine ⟨fun x hx => ?_, insN_inc h.2 hn.2⟩
      rcases List.mem_cons.mp ((insN_perm i r).mem_iff.mp hx) with e | hx
      · omega
      · exact h.1 x hx
theorem sortN_inc : ∀ {l : List Nat}, l.Nodup → Inc (sortN l)
  | [], _ => List.Pairwise.nil
  | i :: l, h => by
    rw [List.nodup_cons] at h
    exact insN_inc (sortN_inc h.2) fun z => h.1 (sortN_mem.mp z)
theorem inc_nodup {l : List Nat} (h : Inc l) : l.Nodup := h.imp fun hab => Nat.ne_of_lt hab
theorem nodup_snoc {l : List Nat} {i : Nat} (h : l.Nodup) (hi : i ∉ l) : (l ++ [i]).Nodup := by
  rw [List.nodup_append]
  exact ⟨h, by simp, fun x hx y hy => by rw [List.mem_singleton.mp hy]; exact fun e => hi (by rw [← e]; exact hx)⟩
theorem div_ok {g d : Nat} (h : 0 < g) (h2 : g ≤ d) (hd : d ≤ 1000000) (i : Int) : CDivW i (g : Int) := by
  refine wide_div (b := 30) (by omega) ?_ (by decide) (by decide)
  rw [Int.natAbs_natCast]
  omega
theorem all_true {α : Type} (l : List α) : (l.map fun _ => true).all id = true := by
  rw [List.all_eq_true]
  intro x hx
  obtain ⟨_, _, rfl⟩ := List.mem_map.mp hx
  rfl
def cellOf (ns : List Int) (k : Nat) : Nat := if k < ns.length then (ns.getD k 0).natAbs else 0
def p_cell : Phi := fun ds S R => ∃ (ns : List Int) (k : Nat), ds = [.scr ns, eN k] ∧ R (eN (cellOf ns k)) S
/-- the law's stream of numbers -/
def boxO (a b : Nat) : Ob := .lst [eN a, eN b]
def p_stream : Phi := fun ds S R => ∃ (ns : List Int) (k : Nat), ds = [.scr ns, eN k] ∧ ∀ a b, b ≤ 2147483647 → R (.ref S.length) (S ++ [boxO a b])
def p_draw : Phi := fun ds S R => ∃ (n h a b : Nat), ds = [.ref n, eN h] ∧ S[n]? = some (boxO a b) ∧ b ≤ 2147483647 ∧ 0 < h ∧ h ≤ 1000000 ∧ ∀ r a b, r < h → b ≤ 2147483647 → R (eN r) (S.set n (boxO a b))
/-! ### what was told -/
mutual
/-- data that is read: no deeper than r -/
def okR : D → Nat → Bool
  | .non, _ => true
  | .bl _, _ => true
  | .int _, _ => true
  | .str x, _ => decide (x.length ≤ 1000)
  | .tup ds, n => decide (0 < n) && decide (ds.length ≤ 1000000) && okRs ds (n - 1)
  | .fl ds, n => decide (0 < n) && decide (ds.length ≤ 1000000) && okRs ds (n - 1)
  | _, _ => false
def okRs : List D → Nat → Bool
  | [], _ => true
  | d :: ds, n => okR d n && okRs ds n
end
theorem okRs_mem : ∀ {ds : List D} {n : Nat} {d : D}, okRs ds n = true → d ∈ ds → okR d n = true
  | x :: ds, n, d, h, hd => by
    simp only [okRs, Bool.and_eq_true] at h
    rcases List.mem_cons.mp hd with e | hd
    · rw [e]; exact h.1
    · exact okRs_mem h.2 hd
mutual
theorem okR_below {m : Nat} : ∀ (d : D) (n : Nat), okR d n = true → below m d = true
  | .non, _, _ => by simp only [below]
  | .bl _, _, _ => by simp only [below]
  | .int _, _, _ => by simp only [below]
  | .str _, _, _ => by simp only [below]
  | .scr _, _, h => by simp [okR] at h
  | .ref _, _, h => by simp [okR] at h
  | .tup ds, n, h => by
    simp only [okR, Bool.and_eq_true] at h
    simp only [below]
    exact okRs_below ds _ h.2
  | .fl ds, n, h => by
    simp only [okR, Bool.and_eq_true] at h
    simp only [below]
    exact okRs_below ds _ h.2
theorem okRs_below {m : Nat} : ∀ (ds : List D) (n : Nat), okRs ds n = true → belows m ds = true
  | [], _, _ => rfl
  | d :: ds, n, h => by
    simp only [okRs, Bool.and_eq_true] at h
    simp only [belows, okR_below d n h.1, okRs_below ds n h.2, Bool.and_self]
end
def p_read (r : Nat) : Phi := fun ds S R => ∃ d, ds = [d] ∧ okR d r = true ∧ R d S

theorem okRs_map {α : Type} {enc : α → D} {n : Nat} (h : ∀ x, okR (enc x) n = true) : ∀ l : List α, okRs (l.map enc) n = true
  | [] => rfl
  | a :: l => by rw [List.map_cons]; simp only [okRs, h, okRs_map h l, Bool.and_self]
theorem okR_eN (n k : Nat) : okR (eN n) k = true := by simp only [eN, okR]
theorem okR_eL {l : List Nat} (h : l.length ≤ 1000000) (k : Nat) : okR (eL l) (k + 1) = true := by
  simp only [eL, okR, Nat.zero_lt_succ, decide_true, Bool.true_and, List.length_map, decide_eq_true h]
  exact okRs_map (fun x => okR_eN x k) l
theorem okR_fL {l : List Nat} (h : l.length ≤ 1000000) (k : Nat) : okR (fL l) (k + 1) = true := by
  simp only [fL, okR, Nat.zero_lt_succ, decide_true, Bool.true_and, List.length_map, decide_eq_true h]
  exact okRs_map (fun x => okR_eN x k) l
/-- a draw out of the box that lies last in the store -/
theorem draw_at {S : Store} {a b : Nat} {R : RE} (h : Nat) (hb : b ≤ 2147483647) (h0 : 0 < h) (h1 : h ≤ 1000000) (k : ∀ r a b, r < h → b ≤ 2147483647 → R (eN r) (S ++ [boxO a b])) : p_draw [.ref S.length, eN h] (S ++ [boxO a b]) R := by
  refine ⟨S.length, h, a, b, rfl, last_get _ _ _, hb, h0, h1, fun r a b hr hb => ?_⟩
  rw [last_set]
  exact k r a b hr hb
/-- numbers that are kept by drawing -/
theorem mapP_sift {b : D → Store → (Option D → Store → Prop) → Prop} {Src : Store → Prop} {K : List D → Store → Prop} (St : Nat → Nat → Store) {t a0 b0 : Nat} (ht : t ≤ 1000000) (hb0 : b0 ≤ 2147483647)
    (turn : ∀ y, y < t → ∀ a b', b' ≤ 2147483647 → ∀ Q : Option D → Store → Prop, (∀ a b', b' ≤ 2147483647 → Q none (St a b') ∧ Q (some (eN y)) (St a b')) → b (eN y) (St a b') Q)
    (src : ∀ a b, Src (St a b)) (fin : ∀ l a b, Inc l → (∀ x ∈ l, x < t) → l.length ≤ t → b ≤ 2147483647 → K (l.map eN) (St a b)) : mapP b Src K ((List.range t).map eN) [] (St a0 b0) := by
  refine mapP_by eN (fun ys acc S' => (∃ a b, b ≤ 2147483647 ∧ S' = St a b) ∧ ∃ l : List Nat, acc = l.map eN ∧ (l ++ ys).Pairwise (· < ·) ∧ (∀ x ∈ l ++ ys, x < t) ∧ l.length + ys.length ≤ t) (List.range t) rfl ⟨⟨a0, b0, hb0, rfl⟩, [], rfl, by rw [List.nil_append]; exact List.pairwise_lt_range, fun x hx => by rw [List.nil_append] at hx; exact List.mem_range.mp hx, by rw [List.length_nil, List.length_range]; omega⟩ ?_ ?_
  · rintro y ys acc S' ⟨⟨a, b', hb, rfl⟩, l, rfl, hp, hy, hlen⟩
    rw [List.length_cons] at hlen
    refine ⟨src a b', size_lt (by rw [List.length_map]; omega), fun Q2 hQ2 => ?_⟩
    refine turn y (hy y (List.mem_append_right _ List.mem_cons_self)) a b' hb Q2 fun a b' hb => ⟨?_, ?_⟩
    · refine hQ2 _ _ ⟨⟨a, b', hb, rfl⟩, l, rfl, hp.sublist (List.Sublist.append_left (List.sublist_cons_self y ys) l), fun x hx => hy x ?_, by omega⟩
      exact (List.Sublist.append_left (List.sublist_cons_self y ys) l).subset hx
    · exact hQ2 _ _ ⟨⟨a, b', hb, rfl⟩, l ++ [y], by rw [List.map_append]; rfl, by rw [List.append_assoc]; exact hp, fun x hx => hy x (by rw [List.append_assoc] at hx; exact hx), by rw [List.length_append, List.length_singleton]; omega⟩
  · rintro acc S' ⟨⟨a, b', hb, rfl⟩, l, rfl, hp, hy, hlen⟩
    rw [List.append_nil] at hp hy
    exact ⟨src a b', fin l a b' hp hy (by simpa using hlen) hb⟩
/-- a number drawn for each item -/
theorem mapP_draws {α : Type} {b : D → Store → (Option D → Store → Prop) → Prop} {Src : Store → Prop} {K : List D → Store → Prop} (St : Nat → Nat → Store) (enc : α → D) (P : D → Prop) {ds : List D} (xs : List α) (e : ds = xs.map enc) {a0 b0 : Nat} (hl : xs.length ≤ 1000000) (hb0 : b0 ≤ 2147483647)
    (turn : ∀ x ∈ xs, ∀ a b', b' ≤ 2147483647 → ∀ Q : Option D → Store → Prop, (∀ d a b', b' ≤ 2147483647 → P d → Q (some d) (St a b')) → b (enc x) (St a b') Q)
    (src : ∀ a b, Src (St a b)) (fin : ∀ rs a b, (∀ d ∈ rs, P d) → rs.length = xs.length → b ≤ 2147483647 → K rs (St a b)) : mapP b Src K ds [] (St a0 b0) := by
  refine mapP_by enc (fun ys acc S' => (∃ a b, b ≤ 2147483647 ∧ S' = St a b) ∧ (∀ d ∈ acc, P d) ∧ acc.length + ys.length = xs.length ∧ ∀ y ∈ ys, y ∈ xs) xs e ⟨⟨a0, b0, hb0, rfl⟩, (fun _ z => nomatch z), by simp, fun y h => h⟩ ?_ ?_
  · rintro y ys acc S' ⟨⟨a, b', hb, rfl⟩, hP, hlen, hm⟩
    rw [List.length_cons] at hlen
    refine ⟨src a b', size_lt (by omega), fun Q2 hQ2 => ?_⟩
    refine turn y (hm y List.mem_cons_self) a b' hb Q2 fun d a b' hb hd => hQ2 _ _ ⟨⟨a, b', hb, rfl⟩, fun x hx => ?_, by rw [List.length_append, List.length_singleton]; omega, fun y h => hm y (List.mem_cons_of_mem _ h)⟩
    rcases List.mem_append.mp hx with z | z
    · exact hP x z
    · rw [List.mem_singleton.mp z]; exact hd
  · rintro acc S' ⟨⟨a, b', hb, rfl⟩, hP, hlen, _⟩
    exact ⟨src a b', fin acc a b' hP (by simpa using hlen) hb⟩
theorem nats_of {h : Nat} : ∀ {rs : List D}, (∀ d ∈ rs, ∃ r, r < h ∧ d = eN r) → ∃ l : List Nat, rs = l.map eN ∧ ∀ x ∈ l, x < h
  | [], _ => ⟨[], rfl, fun _ z => nomatch z⟩
  | d :: rs, hd => by
    obtain ⟨r, h1, h2⟩ := hd d List.mem_cons_self
    obtain ⟨l, h3, h4⟩ := nats_of fun x hx => hd x (List.mem_cons_of_mem _ hx)
    refine ⟨r :: l, by rw [List.map_cons, ← h3, h2], fun x hx => ?_⟩
    rcases List.mem_cons.mp hx with z | z
    · rw [z]; exact h1
    · exact h4 x z
mutual
theorem qv_self : ∀ (d : D) (n : Nat), okD d n = true → qv d d = true
  | .non, _, _ => by simp only [qv]
  | .bl _, _, _ => by simp only [qv, decide_true]
  | .int _, _, _ => by simp only [qv, decide_true]
  | .str _, _, _ => by simp only [qv, decide_true]
  | .tup ds, n, h => by
    simp only [okD, Bool.and_eq_true] at h
    simp only [qv]
    exact qvs_self ds _ h.2
  | .fl ds, n, h => by
    simp only [okD, Bool.and_eq_true] at h
    simp only [qv]
    exact qvs_self ds _ h.2
  | .scr _, _, h => by simp [okD] at h
  | .ref _, _, h => by simp [okD] at h
theorem qvs_self : ∀ (ds : List D) (n : Nat), okDs ds n = true → qvs ds ds = true
  | [], _, _ => by simp only [qvs]
  | d :: ds, n, h => by
    simp only [okDs, Bool.and_eq_true] at h
    simp only [qvs, qv_self d n h.1, qvs_self ds n h.2, Bool.and_self]
end
theorem okD_pair {i : Int} {x : D} {n : Nat} (h : okD x n = true) : okD (.tup [.int i, x]) (n + 1) = true := by
  simp only [okD, okDs, Nat.zero_lt_succ, decide_true, Bool.true_and, Nat.add_sub_cancel, h, Bool.and_self]
theorem okD_pair' {i : Int} {x : D} (h : okD x 59 = true) : okD (.tup [.int i, x]) 60 = true := okD_pair h
/-- told == (0, due): the same -/
theorem told_same {S : Store} {d : D} {R : Bool → Prop} (ok : okD d 59 = true) (h : R false) : cmpP S .NotEq (.tup [.int 0, d]) (.tup [.int 0, d]) R :=
  cmpP_neOf (okD_pair' ok) (okD_pair' ok) (qv_self _ _ (okD_pair' ok)) h
theorem qv_pair {i : Int} {x y : D} : qv (.tup [.int i, x]) (.tup [.int i, y]) = qv x y := by
  simp only [qv, qvs, decide_true, Bool.true_and, Bool.and_true]
theorem okR_bl (b : Bool) (k : Nat) : okR (.bl b) k = true := by simp only [okR]
theorem okR_p2 (a b : Nat) (k : Nat) : okR (.tup [eN a, eN b]) (k + 1) = true := by
  simp only [okR, okRs, eN, Nat.zero_lt_succ, decide_true, Bool.true_and, Bool.and_true]; rfl
theorem okD_p2 (a b : Nat) (k : Nat) : okD (.tup [eN a, eN b]) (k + 1) = true := by
  simp only [okD, okDs, eN, Nat.zero_lt_succ, decide_true, Bool.true_and, Bool.and_true]
theorem qv_fl_nil (l : List Nat) : qv (.fl (l.map eN)) (.fl []) = decide (l = []) := qv_fL l []
theorem okD_flN (l : List Nat) (k : Nat) : okD (.fl (l.map eN)) (k + 1) = true := okD_fL l k
theorem qv_bl (a b : Bool) : qv (.bl a) (.bl b) = decide (a = b) := by simp only [qv]
theorem okD_bl (a : Bool) (k : Nat) : okD (.bl a) k = true := by simp only [okD]
theorem evSs_cons {G : Nat → Option Phi} {C : Nat → Option Int} {s : SI} {ss : SIs} {Q : DE} {ρ : Rho} {S : Store} : evSs G C (.cons s ss) Q ρ S = evS G C s { Q with nx := fun ρ' S' => evSs G C ss Q ρ' S' } ρ S := by
  simp only [evSs]
theorem cutD_init (xs : List D) : cutD xs none (some (-1)) = xs.dropLast := by
  unfold cutD HT.sIx
  simp only [List.drop_zero, Nat.sub_zero]
  rw [if_pos (by decide), List.dropLast_eq_take]
  congr 1
  omega
theorem slP_init {S : Store} {xs : List D} {R : D → Prop} (h : R (.tup xs.dropLast)) : slP S (.tup xs) none (some (-1)) R := by
  show R (.tup (cutD xs none (some (-1))))
  rw [cutD_init]; exact h
end DL

set_option Elab.async false
set_option linter.all false
set_option maxRecDepth 100000
/-! DL24: the law's defs put together; the end. -/
namespace DL
open PySem PySem.Spec PyProof.Rows L2
theorem At.fn {W : Wd} {nm : Nm} {mg : Str → Option Value} {j : Nat} {f : Addr} {x : Str} (hg : nm.g j = some x) (hm : ∀ c, nm.m c j = none) (hi : ∀ c y, nm.c c = some y → nm.i c ≠ j) (e : mg x = some (.ref f)) (k : PySem.W.keepIn W.K (.ref f) = true) : At W nm mg j f :=
  ⟨(fun y h => by rw [hg] at h; cases h; exact ⟨e, k⟩), (fun c m ca h _ => by rw [hm c] at h; cases h), fun c y h1 h2 => absurd h2 (hi c y h1)⟩
theorem At.mt {W : Wd} {nm : Nm} {mg : Str → Option Value} {j : Nat} {f ca : Addr} {c0 : Nat} {m0 : Str} (hg : nm.g j = none) (hm : ∀ c m, nm.m c j = some m → c = c0 ∧ m = m0) (hi : ∀ c y, nm.c c = some y → nm.i c ≠ j) (hC : W.C c0 = some ca) (M : Meth W.K ca m0 f) : At W nm mg j f :=
  ⟨(fun y h => by rw [hg] at h; cases h), (fun c m ca' h h2 => by
    obtain ⟨rfl, rfl⟩ := hm c m h
    rw [hC] at h2
    cases h2
    exact M), fun c y h1 h2 => absurd h2 (hi c y h1)⟩
theorem At.ini {W : Wd} {nm : Nm} {mg : Str → Option Value} {j : Nat} {f ca : Addr} {c0 : Nat} {x0 : Str} (hg : nm.g j = none) (hm : ∀ c, nm.m c j = none) (hi : ∀ c y, nm.c c = some y → nm.i c = j → c = c0 ∧ y = x0) (hC : W.C c0 = some ca) (M : Mk W.K ca f) (e : mg x0 = some (.ref ca)) : At W nm mg j f :=
  ⟨(fun y h => by rw [hg] at h; cases h), (fun c m ca h _ => by rw [hm c] at h; cases h), fun c y h1 h2 => by
    obtain ⟨rfl, rfl⟩ := hi c y h1 h2
    exact ⟨ca, hC, M, e⟩⟩
theorem Lk.push {W : Wd} {nm : Nm} {G : Nat → Option Phi} {C : Nat → Option Int} {k k' : Nat} {mg : Str → Option Value} {base : Heap} {j : Nat} {f : Addr} {φ : Phi} (T : Lk W nm G C k mg base) (a : At W nm mg j f) (F : Fn1 W mg base k' f φ) (h : k ≤ k') : Lk W nm (addG G j φ) C k' mg base :=
  have T' := T.mono h
  { cst := T'.cst, blt := T'.blt, cls := T'.cls, nof := T'.nof
    fns := fun i ψ x h1 h2 => by
      by_cases hi : i = j
      · subst hi
        rw [addG_same] at h2
        cases h2
        exact ⟨f, F, (a.g x h1).1, (a.g x h1).2⟩
      · rw [addG_ne hi] at h2
        exact T'.fns i ψ x h1 h2
    mts := fun c i m ψ ca h1 h2 h3 => by
      by_cases hi : i = j
      · subst hi
        rw [addG_same] at h2
        cases h2
        exact ⟨f, a.m c m ca h1 h3, F⟩
      · rw [addG_ne hi] at h2
        exact T'.mts c i m ψ ca h1 h2 h3
    mks := fun c x ψ h1 h2 => by
      by_cases hi : nm.i c = j
      · rw [hi, addG_same] at h2
        cases h2
        obtain ⟨ca, a1, a2, a3⟩ := a.i c x h1 hi
        exact ⟨ca, f, a1, a2, a3, F⟩
      · rw [addG_ne hi] at h2
        exact T'.mks c x ψ h1 h2 }
def noneNs : Option (Option Value) → Bool
  | some none => true
  | _ => false
theorem blt_of {K : PySem.W.Frag} {h : Heap} {mg : Str → Option Value} (X : K.In h) (G : h.Ns mainGlobals mg) (b : bltNames.all (fun x => noneNs (PySem.W.nsIn K mainGlobals x)) = true) : ∀ x ∈ bltNames, mg x = none := fun x hx => by
  rw [List.all_eq_true] at b
  have := b x hx
  refine PySem.W.mg_none_of X G ?_
  unfold noneNs at this
  split at this
  · assumption
  · cases this
/-- the script as it comes -/
theorem rel_script {W : Wd} {H : Hp} {a : Addr} {ns : List Int} (hT : LamX.Tabs W.T H) (hS : SqL W.K H a (ns.map V.int)) : RelS W [] ⟨[], []⟩ H ∧ RepVs W.K ⟨[], []⟩ H [.scr ns] [.ref a] := by
  refine ⟨⟨rfl, List.nodup_nil, (fun b h => nomatch h), (fun n o a h _ => by simp at h), hT⟩, RepVs.cons ?_ RepVs.nil⟩
  unfold RepV
  refine ⟨a, rfl, ?_⟩
  rcases hS with h | h
  · exact .inl ⟨(fun z => by rcases z with z | z <;> cases z), h⟩
  · exact .inr h
theorem sp_script {W : Wd} {φ : Phi} {H : Hp} {a : Addr} {ns : List Int} (hT : LamX.Tabs W.T H) (hS : SqL W.K H a (ns.map V.int)) (h : φ [.scr ns] [] fun d _ => d = .bl true) (E : XK) : spD W φ [.ref a] H (fun v _ => v = .bl true) E := by
  obtain ⟨h1, h2⟩ := rel_script hT hS
  refine ⟨[], _, _, _, h1, h2, h, fun d S' m' H' v hd _ _ q => ?_⟩
  subst hd
  exact q
theorem tab_uniq {T : List (Addr × Str)} (hn : (T.map (·.1)).Nodup) {P : Addr} {q : Str} (hm : (P, q) ∈ T) : ∀ p ∈ T, p.1 = P → p.2 = q := by
  induction T with
  | nil => cases hm
  | cons t T ih =>
    rw [List.map_cons, List.nodup_cons] at hn
    intro p hp e
    rcases List.mem_cons.mp hm with h1 | h1
    · rcases List.mem_cons.mp hp with h2 | h2
      · rw [h2, ← h1]
      · exact absurd (List.mem_map.mpr ⟨p, h2, by rw [e, ← h1]⟩) hn.1
    · rcases List.mem_cons.mp hp with h2 | h2
      · exact absurd (List.mem_map.mpr ⟨(P, q), h1, by rw [← h2, e]⟩) hn.1
      · exact ih hn.2 h1 p h2 e
theorem tx_of {W : Wd} {nm : Nm} {G : Nat → Option Phi} {C : Nat → Option Int} {k k2 : Nat} {mg : Str → Option Value} {base : Heap} {x a rd qual : Str} {st : Stmt} {g c P f : Addr} {fd : FuncData} {Ng N : List Str} {sc : Scope} {A : Around} {outer : List Env} {s : Shared} {H : Hp} {E : XK}
    (hk : k2 + 2 ≤ k) (h1 : nm.told = some x) (T : Lk W nm G C k2 mg base) (F : L2.Fun W.K x x st g fd) (hm : mg x = some (.ref g)) (b : L2.Binds W.K fd [a] []) (Sc : FnScope Ng [a] (L2.defScope st)) (hN : Ng[0]? = some a) (hb : toldBody rd a (L2.defBody st)) (hr : nm.g nm.rd = some rd)
    (hgl : isGlob (L2.defScope st) rd = true) (o1 : okName rd = true) (o2 : okName a = true) (hT : LamX.TabB base mg c P) (hW : (P, qual ++ ".<locals>." ++ "<lambda>") ∈ W.T) (hu : ∀ p ∈ W.T, p.1 = P → p.2 = qual ++ ".<locals>." ++ "<lambda>") : TX W nm G C k (cxOf L2.CX0 W.P W.w W.K mg base N qual sc f (.ref c) A outer s H E).nox :=
  ⟨k2, x, a, rd, st, g, c, P, fd, Ng, hk, h1, T, F, hm, b, Sc, hN, hb, hr, hgl, o1, o2, hT, rfl, hW, hu⟩
/-- THE RULE for a def whose text asks what is told -/
theorem okFT {W : Wd} {nm : Nm} {G : Nat → Option Phi} {C : Nat → Option Int} {k : Nat} {mg : Str → Option Value} {base : Heap} {x qual xt a rd : Str} {st stt : Stmt} {f g cd P : Addr} {fdt : FuncData} {N ps Ng : List Str} {φ : Phi} {ss : SIs} {oc dV kV doc pm ct : Value} {od an : Option Addr} {osl : Array (Option Value)}
    (T : Lk W nm G C k mg base) (lk : W.K.lookup f = some ⟨oc, od, .func (PySem.W.fnOf x qual (defArgs st) (defBody st) (defScope st) dV kV doc pm an (.ref cd) ct), osl⟩) (hcd : PySem.W.codeIn W.K (.ref cd) qual = true)
    (b : L2.Binds W.K (PySem.W.fnOf x qual (defArgs st) (defBody st) (defScope st) dV kV doc pm an (.ref cd) ct) ps []) (Sc : FnScope N ps (L2.defScope st)) (len : ∀ ds S R, φ ds S R → ds.length = ps.length)
    (chk : chkSs nm { N := N, sc := L2.defScope st, st := stB (L2.defScope st), tl := true } ss (L2.defBody st) = true)
    (body : ∀ ds S R, closed S → φ ds S R → evSs G C ss { nx := fun _ S1 => endP S.length R .non S1, rt := endP S.length R } (startD N ds) S)
    (TB : LamX.TabB base mg cd P) (hW : (P, qual ++ ".<locals>." ++ "<lambda>") ∈ W.T) (hu : ∀ p ∈ W.T, p.1 = P → p.2 = qual ++ ".<locals>." ++ "<lambda>")
    (h1 : nm.told = some xt) (Ft : L2.Fun W.K xt xt stt g fdt) (hm : mg xt = some (.ref g)) (bt : L2.Binds W.K fdt [a] []) (Sct : FnScope Ng [a] (L2.defScope stt)) (hN : Ng[0]? = some a) (hb : toldBody rd a (L2.defBody stt)) (hr : nm.g nm.rd = some rd)
    (hgl : isGlob (L2.defScope stt) rd = true) (o1 : okName rd = true) (o2 : okName a = true) : Fn1 W mg base (k + 6) f φ := by
  refine ⟨_, ps, FnOk.mono (fn_of (sp := spD W φ) (base := base) (mg := mg) (w := W.w) (P := W.P) (CX := L2.CX0) (k := k + 5) lk hcd Sc (spD_len len) fun A outer s H vs Q E hr' h => ?_) (Nat.le_refl _), b⟩
  obtain ⟨t, ht, hq⟩ := okBody (tl := true) (lm := false) (φ := φ) (T.mono (Nat.le_add_right k 4)) Sc len chk body hr' (fun _ => tx_of (k2 := k) (by omega) h1 T Ft hm bt Sct hN hb hr hgl o1 o2 TB hW hu) (fun z => nomatch z) h
  exact ⟨t, ht.nox, hq⟩
/-- THE RULE for a def whose text makes a lambda that is a key -/
theorem okFL {W : Wd} {nm : Nm} {G : Nat → Option Phi} {C : Nat → Option Int} {k : Nat} {mg : Str → Option Value} {base : Heap} {x qual : Str} {st : Stmt} {f cd P : Addr} {N ps : List Str} {φ : Phi} {ss : SIs} {oc dV kV doc pm ct : Value} {od an : Option Addr} {osl : Array (Option Value)}
    (T : Lk W nm G C k mg base) (lk : W.K.lookup f = some ⟨oc, od, .func (PySem.W.fnOf x qual (defArgs st) (defBody st) (defScope st) dV kV doc pm an (.ref cd) ct), osl⟩) (hcd : PySem.W.codeIn W.K (.ref cd) qual = true)
    (b : L2.Binds W.K (PySem.W.fnOf x qual (defArgs st) (defBody st) (defScope st) dV kV doc pm an (.ref cd) ct) ps []) (Sc : FnScope N ps (L2.defScope st)) (len : ∀ ds S R, φ ds S R → ds.length = ps.length)
    (chk : chkSs nm { N := N, sc := L2.defScope st, st := stB (L2.defScope st), lm := true } ss (L2.defBody st) = true)
    (body : ∀ ds S R, closed S → φ ds S R → evSs G C ss { nx := fun _ S1 => endP S.length R .non S1, rt := endP S.length R } (startD N ds) S)
    (TB : LamX.TabB base mg cd P) (hW : (P, qual ++ ".<locals>." ++ "<lambda>") ∈ W.T) (hu : ∀ p ∈ W.T, p.1 = P → p.2 = qual ++ ".<locals>." ++ "<lambda>") : Fn1 W mg base (k + 6) f φ := by
  refine ⟨_, ps, FnOk.mono (fn_of (sp := spD W φ) (base := base) (mg := mg) (w := W.w) (P := W.P) (CX := L2.CX0) (k := k + 5) lk hcd Sc (spD_len len) fun A outer s H vs Q E hr h => ?_) (Nat.le_refl _), b⟩
  obtain ⟨t, ht, hq⟩ := okBody (tl := false) (lm := true) (φ := φ) (T.mono (Nat.le_add_right k 4)) Sc len chk body hr (fun z => nomatch z) (fun _ => ⟨k, cd, P, Nat.le_refl _, T, TB, rfl, hW, hu⟩) h
  exact ⟨t, ht.nox, hq⟩
end DL

set_option Elab.async false
set_option linter.all false
set_option maxRecDepth 100000
/-! DL25: rows that are sorted by keys, told by lists. -/
namespace DL
open PySem PySem.Spec PyProof.Rows L2 PySem.W
theorem alike_ii (a b c d : Int) : alike (.tuple [.int a, .int b]) (.tuple [.int c, .int d]) = true := by simp [alike, alikeAll]
theorem depth_ii (a b : Int) : (PyData.tuple [.int a, .int b]).depth ≤ 8 := by simp [PyData.depth, PyData.depthAll]
theorem srtP_of {α : Type} (enc : α → D) (dec : D → α) (hde : ∀ a, dec (enc a) = a) (key : α → PyData) (le : α → α → Bool) (hle : ∀ a b, (!dataLt (key b) (key a)) = le a b) {xs : List α} (hl : xs.length ≤ sizeLine) (hal : ∀ a b, alike (key a) (key b) = true) (hso : (∀ a, ∃ x r, key a = .tuple (x :: r)) ∨ ∀ a, key a ≠ .none ∧ ∀ ys, key a ≠ .tuple ys) (hd : ∀ a, (key a).depth ≤ 8) {R : D → Prop} (h : R (.fl ((xs.mergeSort le).map enc))) :
    srtP (xs.map enc) (fun d => key (dec d)) R := by
  have e : (xs.map enc).map (fun d => key (dec d)) = xs.map key := by
    rw [List.map_map]
    exact List.map_congr_left fun a _ => by show key (dec (enc a)) = _; rw [hde]
  refine ⟨by rw [List.length_map]; exact hl, ?_, ?_, fun d hd' => ?_, ?_⟩
  · rw [e]; exact AllAlike.of hal
  · rw [e]
    rcases hso with h | h
    · exact Sortable.tuples h
    · exact Sortable.others h
  · obtain ⟨a, _, rfl⟩ := List.mem_map.mp hd'
    show (key (dec (enc a))).depth ≤ 8
    rw [hde]; exact hd a
  · have : (xs.map enc).mergeSort (dataLe false fun d => key (dec d)) = (xs.mergeSort le).map enc := by
      refine (List.map_mergeSort fun a _ b _ => ?_).symm
      rw [dataLe_eq]
      show le a b = !dataLt (key (dec (enc b))) (key (dec (enc a)))
      rw [hde, hde, hle]
    rw [this]; exact h
/-- by pairs of ints -/
theorem srtP_ii {α : Type} (enc : α → D) (dec : D → α) (hde : ∀ a, dec (enc a) = a) (x y : α → Int) {xs : List α} (hl : xs.length ≤ sizeLine) {R : D → Prop} (h : R (.fl ((xs.mergeSort fun p q => decide (x p < x q ∨ (x p = x q ∧ y p ≤ y q))).map enc))) :
    srtP (xs.map enc) (fun d => .tuple [.int (x (dec d)), .int (y (dec d))]) R := by
  refine srtP_of enc dec hde (fun a => .tuple [.int (x a), .int (y a)]) _ (fun a b => ?_) hl (fun a b => alike_ii _ _ _ _) (.inl fun a => ⟨_, _, rfl⟩) (fun a => depth_ii _ _) h
  have := congrFun (congrFun (dataLe_ii (β := α) x y) a) b
  rw [dataLe_eq] at this
  exact this
/-- whole numbers -/
theorem srtP_i {α : Type} (enc : α → D) (dec : D → α) (hde : ∀ a, dec (enc a) = a) (x : α → Int) {xs : List α} (hl : xs.length ≤ sizeLine) {R : D → Prop} (h : R (.fl ((xs.mergeSort fun p q => decide (x p ≤ x q)).map enc))) :
    srtP (xs.map enc) (fun d => .int (x (dec d))) R := by
  refine srtP_of enc dec hde (fun a => .int (x a)) _ (fun a b => ?_) hl (fun a b => by simp [alike]) (.inr fun a => ⟨nofun, nofun⟩) (fun a => by simp [PyData.depth]) h
  have := congrFun (congrFun (dataLe_int (β := α) x) a) b
  rw [dataLe_eq] at this
  exact this
theorem srtP_congr {ds : List D} {kf kf' : D → PyData} (e : ∀ d ∈ ds, kf d = kf' d) {R : D → Prop} (h : srtP ds kf R) : srtP ds kf' R := by
  obtain ⟨h1, h2, h3, h4, h5⟩ := h
  have em : ds.map kf = ds.map kf' := List.map_congr_left e
  have es : ds.mergeSort (dataLe false kf) = ds.mergeSort (dataLe false kf') := by
    have := @List.map_mergeSort D D (dataLe false kf) (dataLe false kf') id ds (fun a ha b hb => by rw [dataLe_eq, dataLe_eq]; show (!_) = !_; rw [e a ha, e b hb]; rfl)
    rw [List.map_id, List.map_id] at this
    exact this
  exact ⟨h1, by rw [← em]; exact h2, by rw [← em]; exact h3, fun d hd => by rw [← e d hd]; exact h4 d hd, by rw [← es]; exact h5⟩
theorem insN_le (i : Nat) : ∀ {l : List Nat}, l.Pairwise (· ≤ ·) → (insN i l).Pairwise (· ≤ ·)
  | [], _ => List.pairwise_singleton _ _
  | j :: r, h => by
    rw [List.pairwise_cons] at h
    unfold insN
    by_cases hij : i ≤ j
    · rw [if_pos hij, List.pairwise_cons, List.pairwise_cons]
      exact ⟨fun x hx => (List.mem_cons.mp hx).elim (fun e => by omega) fun z => by have := h.1 x z; omega, h⟩
    · rw [if_neg hij, List.pairwise_cons]
      refine ⟨fun x hx => ?_, insN_le i h.2⟩
      rcases List.mem_cons.mp ((insN_perm i r).mem_iff.mp hx) with e | z
      · omega
      · exact h.1 x z
theorem sortN_le : ∀ l : List Nat, (sortN l).Pairwise (· ≤ ·)
  | [] => List.Pairwise.nil
  | i :: l => insN_le i (sortN_le l)
theorem le_uniq {xs ys : List Nat} (h1 : xs.Pairwise (· ≤ ·)) (h2 : ys.Pairwise (· ≤ ·)) (p : xs.Perm ys) : xs = ys :=
  List.Perm.eq_of_pairwise (le := fun a b => a ≤ b) (fun a b _ _ x y => Nat.le_antisymm x y) h1 h2 p
/-- the order of whole numbers -/
theorem mergeN (l : List Nat) : l.mergeSort (fun (p q : Nat) => decide ((p : Int) ≤ (q : Int))) = sortN l := by
  refine le_uniq ?_ (sortN_le l) ((List.mergeSort_perm _ _).trans (sortN_perm l).symm)
  have := List.pairwise_mergeSort (le := fun (p q : Nat) => decide ((p : Int) ≤ (q : Int))) (fun a b c h1 h2 => by rw [decide_eq_true_eq] at *; omega) (fun a b => by rw [Bool.or_eq_true, decide_eq_true_eq, decide_eq_true_eq]; omega) l
  refine this.imp fun h => ?_
  rw [decide_eq_true_eq] at h
  omega
def decN (d : D) : Nat := match d with | .int i => i.toNat | _ => 0
theorem decN_eN (n : Nat) : decN (eN n) = n := rfl
/-- sorted(x) of numbers, by the general rule -/
theorem sortd_N {S : Store} {d : D} {l : List Nat} {R : D → Prop} (h : colOf S d = some (l.map eN)) (hl : l.length ≤ 1000000) (hR : R (.fl ((sortN l).map eN))) : biP S .sortd [d] R := by
  refine ⟨_, h, fun x hx => ?_, ?_⟩
  · obtain ⟨n, _, rfl⟩ := List.mem_map.mp hx
    rfl
  · refine srtP_congr (kf := fun d => .int ((decN d : Nat) : Int)) (fun d hd => ?_) (srtP_i eN decN decN_eN (fun n => (n : Int)) (size_small (by omega)) ?_)
    · obtain ⟨n, _, rfl⟩ := List.mem_map.mp hd
      rfl
    · rw [mergeN]; exact hR
end DL

set_option Elab.async false
set_option linter.all false
set_option maxRecDepth 100000
/-! M1: the mathematics of dark frames. -/
namespace K13
open DL
/-! ### positions counted -/
def pc (t : List Nat) : Nat → Nat
  | 0 => 0
  | x + 1 => pc t x + (if x ∈ t then 1 else 0)
theorem pc_mono (t : List Nat) {x y : Nat} (h : x ≤ y) : pc t x ≤ pc t y := by
  induction h with
  | refl => exact Nat.le_refl _
  | step h ih => show _ ≤ pc t _ + _; omega
theorem pc_le (t : List Nat) (x k : Nat) : pc t (x + k) ≤ pc t x + k := by
  induction k with
  | zero => exact Nat.le_refl _
  | succ k ih =>
    show pc t (x + k) + _ ≤ _
    split <;> omega
theorem pc_full {t : List Nat} {x : Nat} : ∀ {k : Nat}, (∀ y, x ≤ y → y < x + k → y ∈ t) → pc t (x + k) = pc t x + k
  | 0, _ => rfl
  | k + 1, h => by
    show pc t (x + k) + (if x + k ∈ t then 1 else 0) = _
    rw [if_pos (h _ (by omega) (by omega)), pc_full fun y h1 h2 => h y h1 (by omega)]
    omega
theorem pc_none {t : List Nat} {x : Nat} : ∀ {k : Nat}, (∀ y, x ≤ y → y < x + k → y ∉ t) → pc t (x + k) = pc t x
  | 0, _ => rfl
  | k + 1, h => by
    show pc t (x + k) + (if x + k ∈ t then 1 else 0) = _
    rw [if_neg (h _ (by omega) (by omega)), pc_none fun y h1 h2 => h y h1 (by omega)]; rfl
theorem pc_congr {t u : List Nat} : ∀ {x : Nat}, (∀ y, y < x → (y ∈ t ↔ y ∈ u)) → pc t x = pc u x
  | 0, _ => rfl
  | x + 1, h => by
    show pc t x + _ = pc u x + _
    rw [pc_congr fun y hy => h y (by omega)]
    have := h x (by omega)
    by_cases hx : x ∈ t
    · rw [if_pos hx, if_pos (this.mp hx)]
    · rw [if_neg hx, if_neg (fun z => hx (this.mpr z))]
theorem pc_cons {t : List Nat} {m : Nat} (hm : m ∉ t) : ∀ x, pc (m :: t) x = pc t x + (if m < x then 1 else 0)
  | 0 => rfl
  | x + 1 => by
    show pc (m :: t) x + (if x ∈ m :: t then 1 else 0) = pc t x + (if x ∈ t then 1 else 0) + _
    rw [pc_cons hm x]
    by_cases h1 : x = m
    · subst h1
      rw [if_pos List.mem_cons_self, if_neg hm, if_neg (Nat.lt_irrefl _), if_pos (Nat.lt_succ_self _)]
    · have e : (x ∈ m :: t) ↔ x ∈ t := by rw [List.mem_cons]; exact ⟨fun z => z.resolve_left h1, .inr⟩
      by_cases h2 : x ∈ t
      · rw [if_pos (e.mpr h2), if_pos h2]
        by_cases h3 : m < x
        · rw [if_pos h3, if_pos (by omega)]
        · rw [if_neg h3, if_neg (by omega)]
      · rw [if_neg (fun z => h2 (e.mp z)), if_neg h2]
        by_cases h3 : m < x
        · rw [if_pos h3, if_pos (by omega)]
        · rw [if_neg h3, if_neg (by omega)]
theorem pc_len : ∀ {t : List Nat}, t.Nodup → ∀ {N : Nat}, (∀ x ∈ t, x < N) → pc t N = t.length
  | [], _, N, _ => by
    have z : ∀ N, pc [] N = 0 := fun N => by
      induction N with
      | zero => rfl
      | succ N ih => show pc [] N + (if N ∈ ([] : List Nat) then 1 else 0) = _; rw [ih, if_neg (by simp)]
    rw [z]; rfl
  | m :: t, h, N, hN => by
    rw [List.nodup_cons] at h
    rw [pc_cons h.1, pc_len h.2 fun x hx => hN x (List.mem_cons_of_mem _ hx), if_pos (hN m List.mem_cons_self), List.length_cons]
abbrev Win := Nat × Nat
def inW (w : Win) (m : Nat) : Bool := decide (w.1 ≤ m) && decide (m ≤ w.2)
def cntW (t : List Nat) (w : Win) : Nat := (t.filter (inW w)).length
theorem cntW_pc : ∀ {t : List Nat}, t.Nodup → ∀ {w : Win}, w.1 ≤ w.2 → pc t (w.2 + 1) = pc t w.1 + cntW t w
  | [], _, w, h => by
    have z : ∀ N, pc [] N = 0 := fun N => by
      induction N with
      | zero => rfl
      | succ N ih => show pc [] N + (if N ∈ ([] : List Nat) then 1 else 0) = _; rw [ih, if_neg (by simp)]
    rw [z, z]; rfl
  | m :: t, h, w, hw => by
    rw [List.nodup_cons] at h
    have ih := cntW_pc h.2 hw
    rw [pc_cons h.1, pc_cons h.1, ih]
    unfold cntW inW
    rw [List.filter_cons]
    by_cases h1 : w.1 ≤ m <;> by_cases h2 : m ≤ w.2
    · rw [if_pos (by omega), if_neg (by omega), if_pos (by simp [h1, h2]), List.length_cons]; omega
    · rw [if_neg (by omega), if_neg (by omega), if_neg (by simp [h1, h2])]; omega
    · rw [if_pos (by omega), if_pos (by omega), if_neg (by simp [h1, h2])]; omega
    · omega
/-! ### a window filled from its last moment -/
def fill (a : Nat) : Nat → Nat → List Nat → Option (List Nat)
  | _, 0, t => some t
  | 0, _ + 1, _ => none
  | n + 1, l + 1, t => if a + n ∈ t then fill a n (l + 1) t else fill a n l (t ++ [a + n])
theorem fill_spec (a : Nat) : ∀ (n l : Nat) (t t' : List Nat), fill a n l t = some t' → t.Nodup → t'.Nodup ∧ t <+: t' ∧ t'.length = t.length + l ∧ ∃ c, a ≤ c ∧ c ≤ a + n ∧ ∀ x, x ∈ t' ↔ x ∈ t ∨ (c ≤ x ∧ x < a + n)
  | n, 0, t, t', h, hn => by
    unfold fill at h
    cases h
    exact ⟨hn, List.prefix_refl _, rfl, a + n, by omega, by omega, fun x => ⟨.inl, fun z => z.elim id fun q => by omega⟩⟩
  | 0, l + 1, t, t', h, hn => by unfold fill at h; cases h
  | n + 1, l + 1, t, t', h, hn => by
    unfold fill at h
    by_cases hm : a + n ∈ t
    · rw [if_pos hm] at h
      obtain ⟨h1, h2, h3, c, h4, h5, h6⟩ := fill_spec a n (l + 1) t t' h hn
      refine ⟨h1, h2, h3, c, h4, by omega, fun x => ?_⟩
      rw [h6]
      constructor
      · rintro (z | z)
        · exact .inl z
        · exact .inr (by omega)
      · rintro (z | z)
        · exact .inl z
        · by_cases e : x = a + n
          · rw [e]; exact .inl hm
          · exact .inr (by omega)
    · rw [if_neg hm] at h
      obtain ⟨h1, h2, h3, c, h4, h5, h6⟩ := fill_spec a n l _ t' h (nodup_snoc hn hm)
      refine ⟨h1, (List.prefix_append _ _).trans h2, by rw [h3, List.length_append, List.length_singleton]; omega, c, h4, by omega, fun x => ?_⟩
      rw [h6, List.mem_append, List.mem_singleton]
      constructor
      · rintro ((z | z) | z)
        · exact .inl z
        · exact .inr (by omega)
        · exact .inr (by omega)
      · rintro (z | z)
        · exact .inl (.inl z)
        · by_cases e : x = a + n
          · exact .inl (.inr e)
          · exact .inr (by omega)
theorem fill_some (a : Nat) : ∀ (n l : Nat) (t : List Nat), t.Nodup → l + (pc t (a + n) - pc t a) ≤ n → ∃ t', fill a n l t = some t'
  | n, 0, t, _, _ => ⟨t, by unfold fill; rfl⟩
  | 0, l + 1, t, _, h => by omega
  | n + 1, l + 1, t, hn, h => by
    unfold fill
    have e : pc t (a + (n + 1)) = pc t (a + n) + (if a + n ∈ t then 1 else 0) := rfl
    have hm := pc_mono t (show a ≤ a + n by omega)
    by_cases hin : a + n ∈ t
    · rw [if_pos hin]
      rw [if_pos hin] at e
      exact fill_some a n (l + 1) t hn (by omega)
    · rw [if_neg hin]
      rw [if_neg hin] at e
      refine fill_some a n l _ (nodup_snoc hn hin) ?_
      have e1 : pc (t ++ [a + n]) (a + n) = pc t (a + n) := pc_congr fun y hy => by
        rw [List.mem_append, List.mem_singleton]
        exact ⟨fun z => z.elim id fun q => by omega, .inl⟩
      have e2 : pc (t ++ [a + n]) a = pc t a := pc_congr fun y hy => by
        rw [List.mem_append, List.mem_singleton]
        exact ⟨fun z => z.elim id fun q => by omega, .inl⟩
      rw [e1, e2]
      omega
theorem fill_none (a : Nat) (n l : Nat) (t : List Nat) (hn : t.Nodup) (h : n < l + (pc t (a + n) - pc t a)) : fill a n l t = none := by
  cases e : fill a n l t with
  | none => rfl
  | some t' =>
    exfalso
    obtain ⟨h1, h2, h3, c, h4, h5, h6⟩ := fill_spec a n l t t' e hn
    -- the new points lie between a and a + n
    have hN : ∃ N, a + n ≤ N ∧ (∀ x ∈ t, x < N) ∧ ∀ x ∈ t', x < N := by
      have : ∀ u : List Nat, ∃ N, ∀ x ∈ u, x < N := fun u => by
        induction u with
        | nil => exact ⟨0, fun _ z => nomatch z⟩
        | cons m u ih =>
          obtain ⟨N, hN⟩ := ih
          exact ⟨max N (m + 1), fun x hx => (List.mem_cons.mp hx).elim (fun e => by omega) fun z => by have := hN x z; omega⟩
      obtain ⟨N, hN⟩ := this (t ++ t')
      exact ⟨max N (a + n), by omega, fun x hx => by have := hN x (List.mem_append_left _ hx); omega, fun x hx => by have := hN x (List.mem_append_right _ hx); omega⟩
    obtain ⟨N, g1, g2, g3⟩ := hN
    have l1 := pc_len hn g2
    have l2 := pc_len h1 g3
    have tail : ∀ k, pc t' (a + n + k) + pc t (a + n) = pc t (a + n + k) + pc t' (a + n) := fun k => by
      induction k with
      | zero => rw [Nat.add_zero, Nat.add_comm]
      | succ k ih =>
        show pc t' (a + n + k) + (if a + n + k ∈ t' then 1 else 0) + _ = pc t (a + n + k) + (if a + n + k ∈ t then 1 else 0) + _
        have := h6 (a + n + k)
        by_cases hx : a + n + k ∈ t
        · rw [if_pos hx, if_pos (this.mpr (.inl hx))]; omega
        · rw [if_neg hx, if_neg (fun z => (this.mp z).elim hx fun q => by omega)]; omega
    have tl := tail (N - (a + n))
    rw [show a + n + (N - (a + n)) = N by omega] at tl
    have e1 : pc t' a = pc t a := pc_congr fun y hy => by
      rw [h6]; exact ⟨fun z => z.elim id fun q => by omega, .inl⟩
    have := pc_le t' a n
    have := pc_mono t (show a ≤ a + n by omega)
    omega
/-! ### all windows, by their last moments -/
def stepW (d : Nat) (t : List Nat) (w : Win) : Option (List Nat) := fill w.1 (w.2 + 1 - w.1) (d - cntW t w) t
def runW (d : Nat) : List Win → List Nat → Option (List Nat)
  | [], t => some t
  | w :: ws, t => match stepW d t w with
    | some t' => runW d ws t'
    | none => none
theorem cnt_prefix {t t' : List Nat} (h : t <+: t') (w : Win) : cntW t w ≤ cntW t' w := by
  obtain ⟨u, rfl⟩ := h
  unfold cntW
  rw [List.filter_append, List.length_append]
  omega
theorem runW_spec (d : Nat) : ∀ (ws : List Win) (t t' : List Nat), (∀ w ∈ ws, w.1 ≤ w.2) → runW d ws t = some t' → t.Nodup → t'.Nodup ∧ t <+: t' ∧ (∀ w ∈ ws, d ≤ cntW t' w) ∧ ∀ x ∈ t', x ∈ t ∨ ∃ w ∈ ws, w.1 ≤ x ∧ x ≤ w.2
  | [], t, t', _, h, hn => by
    unfold runW at h
    cases h
    exact ⟨hn, List.prefix_refl _, (fun _ z => nomatch z), fun x hx => .inl hx⟩
  | w :: ws, t, t', hw, h, hn => by
    unfold runW at h
    cases e : stepW d t w with
    | none => rw [e] at h; cases h
    | some u =>
      rw [e] at h
      have h : runW d ws u = some t' := h
      obtain ⟨a1, a2, a3, c, a4, a5, a6⟩ := fill_spec _ _ _ _ _ e hn
      obtain ⟨b1, b2, b3, b4⟩ := runW_spec d ws u t' (fun w hw' => hw w (List.mem_cons_of_mem _ hw')) h a1
      have hw0 := hw w List.mem_cons_self
      refine ⟨b1, a2.trans b2, fun v hv => ?_, fun x hx => ?_⟩
      · rcases List.mem_cons.mp hv with rfl | hv
        · refine Nat.le_trans ?_ (cnt_prefix b2 v)
          obtain ⟨ex, rfl⟩ := a2
          rw [List.length_append] at a3
          unfold cntW
          rw [List.filter_append, List.length_append]
          have : ex.filter (inW v) = ex := List.filter_eq_self.mpr fun x hx => by
            have hnx : x ∉ t := fun z => by
              rw [List.nodup_append] at a1
              exact a1.2.2 x z x hx rfl
            have := ((a6 x).mp (List.mem_append_right _ hx)).resolve_left hnx
            unfold inW
            simp
            omega
          rw [this]
          have : cntW t v = (t.filter (inW v)).length := rfl
          omega
        · exact b3 v hv
      · rcases b4 x hx with z | ⟨v, hv, z⟩
        · rcases (a6 x).mp z with z | z
          · exact .inl z
          · exact .inr ⟨w, List.mem_cons_self, by omega, by omega⟩
        · exact .inr ⟨v, List.mem_cons_of_mem _ hv, z⟩
theorem runW_none (d : Nat) : ∀ (ws : List Win) (t : List Nat), (∀ w ∈ ws, w.1 ≤ w.2) → t.Nodup → (runW d ws t = none ↔ ∃ w ∈ ws, w.2 + 1 - w.1 < d)
  | [], t, _, _ => by
    unfold runW
    exact ⟨(fun h => nomatch h), fun ⟨_, z, _⟩ => nomatch z⟩
  | w :: ws, t, hw, hn => by
    have hw0 := hw w List.mem_cons_self
    have hc := cntW_pc hn hw0
    have e1 : w.1 + (w.2 + 1 - w.1) = w.2 + 1 := by omega
    have hle := pc_le t w.1 (w.2 + 1 - w.1)
    rw [e1] at hle
    unfold runW
    by_cases h : w.2 + 1 - w.1 < d
    · have : stepW d t w = none := fill_none _ _ _ _ hn (by rw [e1]; omega)
      rw [this]
      exact ⟨fun _ => ⟨w, List.mem_cons_self, h⟩, fun _ => rfl⟩
    · obtain ⟨u, hu⟩ := fill_some w.1 (w.2 + 1 - w.1) (d - cntW t w) t hn (by rw [e1]; omega)
      have hu' : stepW d t w = some u := hu
      rw [hu']
      show runW d ws u = none ↔ _
      obtain ⟨a1, _⟩ := fill_spec _ _ _ _ _ hu hn
      rw [runW_none d ws u (fun w hw' => hw w (List.mem_cons_of_mem _ hw')) a1]
      constructor
      · rintro ⟨v, hv, z⟩; exact ⟨v, List.mem_cons_of_mem _ hv, z⟩
      · rintro ⟨v, hv, z⟩
        rcases List.mem_cons.mp hv with rfl | hv
        · exact absurd z h
        · exact ⟨v, hv, z⟩
/-- no set that is enough has fewer, whatever is counted up to a moment -/
theorem runW_least (d : Nat) (X : List Nat) (hX : X.Nodup) : ∀ (ws : List Win) (t t' : List Nat), (∀ w ∈ ws, w.1 ≤ w.2) → ws.Pairwise (fun v w => v.2 ≤ w.2) → (∀ w ∈ ws, ∀ x ∈ t, x ≤ w.2) → (∀ w ∈ ws, d ≤ cntW X w) → t.Nodup → (∀ x, pc t x ≤ pc X x) → runW d ws t = some t' → ∀ x, pc t' x ≤ pc X x
  | [], t, t', _, _, _, _, _, hp, h => by
    unfold runW at h
    cases h
    exact hp
  | w :: ws, t, t', hw, hs, ht, hd, hn, hp, h => by
    unfold runW at h
    rw [List.pairwise_cons] at hs
    cases e : stepW d t w with
    | none => rw [e] at h; cases h
    | some u =>
      rw [e] at h
      have h : runW d ws u = some t' := h
      obtain ⟨a1, a2, a3, c, a4, a5, a6⟩ := fill_spec _ _ _ _ _ e hn
      have hw0 := hw w List.mem_cons_self
      have htw := ht w List.mem_cons_self
      have e1 : w.1 + (w.2 + 1 - w.1) = w.2 + 1 := by omega
      rw [e1] at a5 a6
      have hu : ∀ x ∈ u, x ≤ w.2 := fun x hx => by
        rcases (a6 x).mp hx with z | z
        · exact htw x z
        · omega
      refine runW_least d X hX ws u t' (fun w hw' => hw w (List.mem_cons_of_mem _ hw')) hs.2 (fun v hv x hx => Nat.le_trans (hu x hx) (hs.1 v hv)) (fun v hv => hd v (List.mem_cons_of_mem _ hv)) a1 (fun x => ?_) h
      have hc := cntW_pc hn hw0
      have hcX := cntW_pc hX hw0
      have hdw := hd w List.mem_cons_self
      have l1 := pc_len hn (N := w.2 + 1) fun x hx => by have := htw x hx; omega
      have l2 := pc_len a1 (N := w.2 + 1) fun x hx => by have := hu x hx; omega
      have p1 := hp w.1
      have p2 := hp (w.2 + 1)
      -- up to the last moment of the window
      have top : pc u (w.2 + 1) ≤ pc X (w.2 + 1) := by omega
      by_cases h1 : x ≤ c
      · have : pc u x = pc t x := pc_congr fun y hy => by
          rw [a6]; exact ⟨fun z => z.elim id fun q => by omega, .inl⟩
        rw [this]; exact hp x
      · by_cases h2 : x ≤ w.2 + 1
        · have f := pc_full (t := u) (x := x) (k := w.2 + 1 - x) fun y g1 g2 => (a6 y).mpr (.inr (by omega))
          have g := pc_le X x (w.2 + 1 - x)
          rw [show x + (w.2 + 1 - x) = w.2 + 1 by omega] at f g
          omega
        · have f := pc_none (t := u) (x := w.2 + 1) (k := x - (w.2 + 1)) fun y g1 g2 z => by have := hu y z; omega
          have g := pc_mono X (show w.2 + 1 ≤ x by omega)
          rw [show w.2 + 1 + (x - (w.2 + 1)) = x by omega] at f
          omega
theorem len_le_of_pc {t X : List Nat} (h1 : t.Nodup) (h2 : X.Nodup) (h : ∀ x, pc t x ≤ pc X x) : t.length ≤ X.length := by
  have : ∀ u : List Nat, ∃ N, ∀ x ∈ u, x < N := fun u => by
    induction u with
    | nil => exact ⟨0, fun _ z => nomatch z⟩
    | cons m u ih =>
      obtain ⟨N, hN⟩ := ih
      exact ⟨max N (m + 1), fun x hx => (List.mem_cons.mp hx).elim (fun e => by omega) fun z => by have := hN x z; omega⟩
  obtain ⟨N, hN⟩ := this (t ++ X)
  have a := pc_len h1 (N := N) fun x hx => hN x (List.mem_append_left _ hx)
  have b := pc_len h2 (N := N) fun x hx => hN x (List.mem_append_right _ hx)
  have := h N
  omega
end K13

set_option Elab.async false
set_option linter.all false
set_option maxRecDepth 100000
/-! M2: dark frames, windows apart. -/
namespace K13
open DL
def leW (p q : Win) : Bool := decide (((p.2 : Nat) : Int) < ((q.2 : Nat) : Int) ∨ (((p.2 : Nat) : Int) = ((q.2 : Nat) : Int) ∧ ((p.1 : Nat) : Int) ≤ ((q.1 : Nat) : Int)))
def srtW (ws : List Win) : List Win := ws.mergeSort leW
theorem srtW_perm (ws : List Win) : (srtW ws).Perm ws := List.mergeSort_perm _ _
theorem leW_le {p q : Win} (h : leW p q = true) : p.2 ≤ q.2 := by
  unfold leW at h
  rw [decide_eq_true_eq] at h
  omega
theorem srtW_le (ws : List Win) : (srtW ws).Pairwise fun v w => v.2 ≤ w.2 := by
  refine (List.pairwise_mergeSort (le := leW) (fun a b c h1 h2 => ?_) (fun a b => ?_) ws).imp fun h => leW_le h
  · unfold leW at *
    rw [decide_eq_true_eq] at *
    omega
  · unfold leW
    rw [Bool.or_eq_true, decide_eq_true_eq, decide_eq_true_eq]
    omega
def framesF (ws : List Win) (d : Nat) : Option (List Nat) := (runW d (srtW ws) []).map sortN
structure OkW (ws : List Win) : Prop where
  n1 : 1 ≤ ws.length
  nm : ws.length ≤ 40
  le : ∀ w ∈ ws, w.1 ≤ w.2
  lt : ∀ w ∈ ws, w.2 ≤ 1000
variable {ws : List Win} {d k : Nat} {G : List Nat}
theorem framesF_spec (ok : ∀ w ∈ ws, w.1 ≤ w.2) (h : framesF ws d = some G) : Inc G ∧ (∀ w ∈ ws, d ≤ cntW G w) ∧ (∀ x ∈ G, ∃ w ∈ ws, w.1 ≤ x ∧ x ≤ w.2) ∧ ∀ X : List Nat, X.Nodup → (∀ w ∈ ws, d ≤ cntW X w) → G.length ≤ X.length := by
  unfold framesF at h
  cases e : runW d (srtW ws) [] with
  | none => rw [e] at h; cases h
  | some t =>
    rw [e] at h
    obtain rfl := Option.some.inj h
    have hm : ∀ w, w ∈ srtW ws ↔ w ∈ ws := fun w => (srtW_perm ws).mem_iff
    have hw : ∀ w ∈ srtW ws, w.1 ≤ w.2 := fun w hw => ok w ((hm w).mp hw)
    obtain ⟨a1, a2, a3, a4⟩ := runW_spec d _ _ _ hw e List.nodup_nil
    have hc : ∀ w, cntW (sortN t) w = cntW t w := fun w => ((sortN_perm t).filter _).length_eq
    refine ⟨sortN_inc a1, fun w h => ?_, fun x hx => ?_, fun X hX hd => ?_⟩
    · rw [hc]; exact a3 w ((hm w).mpr h)
    · rcases a4 x (sortN_mem.mp hx) with z | ⟨w, z1, z2⟩
      · cases z
      · exact ⟨w, (hm w).mp z1, z2⟩
    · rw [sortN_length]
      refine len_le_of_pc a1 hX ?_
      refine runW_least d X hX _ _ _ hw (srtW_le ws) (fun _ _ _ z => by cases z) (fun w h => hd w ((hm w).mp h)) List.nodup_nil (fun x => ?_) e
      have z : ∀ N, pc [] N = 0 := fun N => by
        induction N with
        | zero => rfl
        | succ N ih => show pc [] N + (if N ∈ ([] : List Nat) then 1 else 0) = _; rw [ih, if_neg (by simp)]
      rw [z]; exact Nat.zero_le _
theorem framesF_none (ok : ∀ w ∈ ws, w.1 ≤ w.2) : framesF ws d = none ↔ ∃ w ∈ ws, w.2 + 1 - w.1 < d := by
  have hm : ∀ w, w ∈ srtW ws ↔ w ∈ ws := fun w => (srtW_perm ws).mem_iff
  unfold framesF
  rw [Option.map_eq_none_iff, runW_none d _ _ (fun w hw => ok w ((hm w).mp hw)) List.nodup_nil]
  constructor
  · rintro ⟨w, h1, h2⟩; exact ⟨w, (hm w).mp h1, h2⟩
  · rintro ⟨w, h1, h2⟩; exact ⟨w, (hm w).mpr h1, h2⟩
/-- what is left when some are covered -/
theorem cnt_without {G C : List Nat} (hG : G.Nodup) {w : Win} : cntW G w ≤ cntW (G.filter fun m => !C.contains m) w + C.length := by
  have h1 : (G.filter (inW w)).length ≤ ((G.filter (inW w)).filter fun m => !C.contains m).length + ((G.filter (inW w)).filter fun m => C.contains m).length := by
    have go : ∀ l : List Nat, l.length ≤ (l.filter fun m => !C.contains m).length + (l.filter fun m => C.contains m).length := fun l => by
      induction l with
      | nil => exact Nat.zero_le _
      | cons a l ih =>
        rw [List.filter_cons, List.filter_cons]
        cases C.contains a with
        | true => simp only [Bool.not_true, Bool.false_eq_true, if_false, if_true, List.length_cons]; omega
        | false => simp only [Bool.not_false, Bool.false_eq_true, if_false, if_true, List.length_cons]; omega
    exact go _
  have h2 : ((G.filter (inW w)).filter fun m => C.contains m).length ≤ C.length := nodup_le ((hG.filter _).filter _) fun x hx => by
    have := (List.mem_filter.mp hx).2
    rw [List.contains_iff_mem] at this
    exact this
  have h3 : (G.filter fun m => !C.contains m).filter (inW w) = (G.filter (inW w)).filter fun m => !C.contains m := by
    rw [List.filter_filter, List.filter_filter]
    congr 1
    funext x
    rw [Bool.and_comm]
  unfold cntW
  rw [h3]
  omega
theorem framesF_more (ok : OkW ws) {G' : List Nat} (h : framesF ws d = some G) (h' : framesF ws (d + k) = some G') : G.length + k ≤ G'.length := by
  obtain ⟨a1, a2, a3, a4⟩ := framesF_spec ok.le h
  obtain ⟨b1, b2, b3, b4⟩ := framesF_spec ok.le h'
  have n1 := ok.n1
  obtain ⟨w, hw⟩ : ∃ w, w ∈ ws := List.exists_mem_of_length_pos (by omega)
  have hk : k ≤ G'.length := by
    have := b2 w hw
    have : cntW G' w ≤ G'.length := List.length_filter_le _ _
    omega
  have hX := a4 (G'.drop k) ((inc_nodup b1).sublist (List.drop_sublist _ _)) fun w hw => by
    have := b2 w hw
    have e : cntW G' w = cntW (G'.take k) w + cntW (G'.drop k) w := by
      unfold cntW
      rw [← List.length_append, ← List.filter_append, List.take_append_drop]
    have : cntW (G'.take k) w ≤ k := Nat.le_trans (List.length_filter_le _ _) (by rw [List.length_take]; omega)
    omega
  rw [List.length_drop] at hX
  omega
/-! ### windows two by two apart -/
def wat (ws : List Win) (i : Nat) : Win := ws.getD i (0, 0)
def leA (ws : List Win) (i j : Nat) : Bool := decide (((wat ws i).2 : Int) < ((wat ws j).2 : Int) ∨ (((wat ws i).2 : Int) = ((wat ws j).2 : Int) ∧ (i : Int) ≤ (j : Int)))
def srtA (ws : List Win) : List Nat := (List.range ws.length).mergeSort (leA ws)
/-- what is found, and the place behind the last one's end -/
def stepA (ws : List Win) (p : List Nat × Nat) (i : Nat) : List Nat × Nat := if p.2 ≤ (wat ws i).1 then (p.1 ++ [i], (wat ws i).2 + 1) else p
def runA (ws : List Win) (l : List Nat) (p : List Nat × Nat) : List Nat × Nat := l.foldl (stepA ws) p
def apartF (ws : List Win) : List Nat := sortN (runA ws (srtA ws) ([], 0)).1
theorem srtA_perm (ws : List Win) : (srtA ws).Perm (List.range ws.length) := List.mergeSort_perm _ _
theorem srtA_le (ws : List Win) : (srtA ws).Pairwise fun i j => (wat ws i).2 ≤ (wat ws j).2 := by
  refine (List.pairwise_mergeSort (le := leA ws) (fun a b c h1 h2 => ?_) (fun a b => ?_) _).imp fun h => ?_
  · unfold leA at *
    rw [decide_eq_true_eq] at *
    omega
  · unfold leA
    rw [Bool.or_eq_true, decide_eq_true_eq, decide_eq_true_eq]
    omega
  · unfold leA at h
    rw [decide_eq_true_eq] at h
    omega
theorem runA_spec (ws : List Win) : ∀ (l : List Nat) (p : List Nat × Nat), l.Pairwise (fun i j => (wat ws i).2 ≤ (wat ws j).2) → (∀ i ∈ l, (wat ws i).1 ≤ (wat ws i).2) → (∀ i ∈ l, p.2 ≤ (wat ws i).2 + 1) → (p.1 ≠ [] ∨ p.2 = 0) → (p.1 ≠ [] → ∃ f ∈ p.1, (wat ws f).2 + 1 = p.2) →
    p.1.Pairwise (fun i j => (wat ws i).2 < (wat ws j).1) → (∀ f ∈ p.1, (wat ws f).2 < p.2) → ∀ q, q = runA ws l p →
    q.1.Pairwise (fun i j => (wat ws i).2 < (wat ws j).1) ∧ (∃ ex, ex.Sublist l ∧ q.1 = p.1 ++ ex) ∧ ∀ i ∈ l, ∃ f ∈ q.1, (wat ws i).1 ≤ (wat ws f).2 ∧ (wat ws f).2 ≤ (wat ws i).2
  | [], p, _, _, _, _, _, hp, _, q, hq => by
    subst hq
    exact ⟨hp, ⟨[], List.Sublist.refl _, (List.append_nil _).symm⟩, (fun _ z => nomatch z)⟩
  | i :: l, p, hs, hw, he, h0, hl, hp, hf, q, hq => by
    rw [List.pairwise_cons] at hs
    have hq : q = runA ws l (stepA ws p i) := hq
    have hw0 := hw i List.mem_cons_self
    have he0 := he i List.mem_cons_self
    by_cases h : p.2 ≤ (wat ws i).1
    · have e : stepA ws p i = (p.1 ++ [i], (wat ws i).2 + 1) := if_pos h
      rw [e] at hq
      obtain ⟨r1, ⟨ex, r2, r3⟩, r4⟩ := runA_spec ws l (p.1 ++ [i], (wat ws i).2 + 1) hs.2 (fun j hj => hw j (List.mem_cons_of_mem _ hj)) (fun j hj => by have := hs.1 j hj; show (wat ws i).2 + 1 ≤ _; omega) (.inl (by simp)) (fun _ => ⟨i, List.mem_append_right _ (List.mem_singleton.mpr rfl), rfl⟩)
        (by
          show (p.1 ++ [i]).Pairwise _
          rw [List.pairwise_append]
          exact ⟨hp, List.pairwise_singleton _ _, fun f hf' j hj => by rw [List.mem_singleton.mp hj]; have := hf f hf'; omega⟩)
        (fun f hf' => by
          rcases List.mem_append.mp hf' with z | z
          · have := hf f z; show _ < (wat ws i).2 + 1; omega
          · rw [List.mem_singleton.mp z]; exact Nat.lt_succ_self _) q hq
      refine ⟨r1, ⟨i :: ex, r2.cons_cons i, by rw [r3, List.append_assoc]; rfl⟩, fun j hj => ?_⟩
      rcases List.mem_cons.mp hj with rfl | hj
      · exact ⟨j, by rw [r3]; exact List.mem_append_left _ (List.mem_append_right _ (List.mem_singleton.mpr rfl)), hw0, Nat.le_refl _⟩
      · exact r4 j hj
    · have e : stepA ws p i = p := if_neg h
      rw [e] at hq
      obtain ⟨r1, ⟨ex, r2, r3⟩, r4⟩ := runA_spec ws l p hs.2 (fun j hj => hw j (List.mem_cons_of_mem _ hj)) (fun j hj => he j (List.mem_cons_of_mem _ hj)) h0 hl hp hf q hq
      refine ⟨r1, ⟨ex, r2.cons i, r3⟩, fun j hj => ?_⟩
      rcases List.mem_cons.mp hj with rfl | hj
      · have hne : p.1 ≠ [] := h0.resolve_right fun z => by omega
        obtain ⟨f, hf1, hf2⟩ := hl hne
        exact ⟨f, by rw [r3]; exact List.mem_append_left _ hf1, by omega, by omega⟩
      · exact r4 j hj
theorem wat_mem {i : Nat} (h : i < ws.length) : wat ws i ∈ ws := by
  unfold wat
  rw [List.getD_eq_getElem?_getD, List.getElem?_eq_getElem h]
  exact List.getElem_mem _
theorem apart_spec (ok : OkW ws) : (runA ws (srtA ws) ([], 0)).1.Pairwise (fun i j => (wat ws i).2 < (wat ws j).1) ∧ (∀ f ∈ (runA ws (srtA ws) ([], 0)).1, f < ws.length) ∧ (runA ws (srtA ws) ([], 0)).1.Nodup ∧
    ∀ w ∈ ws, ∃ f ∈ (runA ws (srtA ws) ([], 0)).1, w.1 ≤ (wat ws f).2 ∧ (wat ws f).2 ≤ w.2 := by
  have hm : ∀ i, i ∈ srtA ws ↔ i < ws.length := fun i => by rw [(srtA_perm ws).mem_iff, List.mem_range]
  obtain ⟨r1, ⟨ex, r2, r3⟩, r4⟩ := runA_spec ws (srtA ws) ([], 0) (srtA_le ws) (fun i hi => ok.le _ (wat_mem ((hm i).mp hi))) (fun _ _ => Nat.zero_le _) (.inr rfl) (fun z => absurd rfl z) List.Pairwise.nil (fun _ z => nomatch z) _ rfl
  have r3 : (runA ws (srtA ws) ([], 0)).1 = ex := by rw [r3]; rfl
  rw [r3] at r1 r4 ⊢
  refine ⟨r1, fun f hf => (hm f).mp (r2.subset hf), ((srtA_perm ws).nodup_iff.mpr List.nodup_range).sublist r2, fun w hw => ?_⟩
  obtain ⟨i, hi, rfl⟩ := List.getElem_of_mem hw
  have e : wat ws i = ws[i] := by unfold wat; rw [List.getD_eq_getElem?_getD, List.getElem?_eq_getElem hi]; rfl
  rw [← e]
  exact r4 i ((hm i).mpr hi)
theorem apart_low {t : List Nat} {f : Nat → Win} : ∀ (l : List Nat) (lo N : Nat), l.Pairwise (fun i j => (f i).2 < (f j).1) → (∀ i ∈ l, (f i).1 ≤ (f i).2) → (∀ i ∈ l, lo ≤ (f i).1) → (∀ i ∈ l, (f i).2 < N) → lo ≤ N → (∀ i ∈ l, pc t (f i).1 < pc t ((f i).2 + 1)) → pc t lo + l.length ≤ pc t N
  | [], lo, N, _, _, _, _, h, _ => pc_mono t h
  | i :: l, lo, N, hs, hw, hlo, hN, h, hp => by
    rw [List.pairwise_cons] at hs
    have := apart_low l ((f i).2 + 1) N hs.2 (fun j hj => hw j (List.mem_cons_of_mem _ hj)) (fun j hj => hs.1 j hj) (fun j hj => hN j (List.mem_cons_of_mem _ hj)) (hN i List.mem_cons_self) (fun j hj => hp j (List.mem_cons_of_mem _ hj))
    have h1 := hp i List.mem_cons_self
    have h2 := pc_mono t (hlo i List.mem_cons_self)
    rw [List.length_cons]
    omega
/-- as many windows apart as fewest frames -/
theorem apart_len (ok : OkW ws) (h : framesF ws 1 = some G) : G.length = (apartF ws).length := by
  obtain ⟨a1, a2, a3, a4⟩ := framesF_spec ok.le h
  obtain ⟨b1, b2, b3, b4⟩ := apart_spec ok
  unfold apartF
  rw [sortN_length]
  generalize (runA ws (srtA ws) ([], 0)).1 = F at b1 b2 b3 b4
  refine Nat.le_antisymm ?_ ?_
  · have hE : (F.map fun f => (wat ws f).2).Nodup := by
      rw [List.Nodup, List.pairwise_map]
      refine List.Pairwise.imp_of_mem (fun {i j} hi hj hij => ?_) b1
      have := ok.le _ (wat_mem (b2 j hj))
      omega
    have := a4 _ hE fun w hw => by
      obtain ⟨f, hf, h1, h2⟩ := b4 w hw
      unfold cntW
      have : (wat ws f).2 ∈ (F.map fun f => (wat ws f).2).filter (inW w) := List.mem_filter.mpr ⟨List.mem_map.mpr ⟨f, hf, rfl⟩, by unfold inW; simp [h1, h2]⟩
      exact List.length_pos_of_mem this
    rw [List.length_map] at this
    exact this
  · have hn := inc_nodup a1
    have hlt : ∀ x ∈ G, x < 1001 := fun x hx => by
      obtain ⟨w, hw, _, h2⟩ := a3 x hx
      have := ok.lt w hw
      omega
    rw [← pc_len hn hlt]
    have := apart_low (t := G) (f := wat ws) F 0 1001 b1 (fun i hi => ok.le _ (wat_mem (b2 i hi))) (fun _ _ => Nat.zero_le _) (fun i hi => by have := ok.lt _ (wat_mem (b2 i hi)); omega) (Nat.zero_le _) (fun i hi => by
      have hw := wat_mem (b2 i hi)
      have := cntW_pc hn (ok.le _ hw)
      have := a2 _ hw
      omega)
    have z : pc G 0 = 0 := rfl
    omega
/-- the chosen windows, in order -/
theorem apart_rows (ok : OkW ws) (le : Win → Win → Bool) (hle : ∀ p q, le p q = decide ((p.1 : Int) < (q.1 : Int) ∨ ((p.1 : Int) = (q.1 : Int) ∧ (p.2 : Int) ≤ (q.2 : Int)))) : (((apartF ws).map (wat ws)).mergeSort le).Pairwise fun v w => v.2 < w.1 := by
  obtain ⟨b1, b2, b3, b4⟩ := apart_spec ok
  have hp : (((apartF ws).map (wat ws)).mergeSort le).Perm ((runA ws (srtA ws) ([], 0)).1.map (wat ws)) := (List.mergeSort_perm _ _).trans ((sortN_perm _).map _)
  generalize (runA ws (srtA ws) ([], 0)).1 = F at *
  have d1 : (F.map (wat ws)).Pairwise fun v w => v.2 < w.1 ∨ w.2 < v.1 := by
    rw [List.pairwise_map]
    exact b1.imp fun h => .inl h
  have d2 := (hp.pairwise_iff (fun {v w} h => h.symm)).mpr d1
  have d3 := List.pairwise_mergeSort (le := le) (fun a b c h1 h2 => by rw [hle] at *; rw [decide_eq_true_eq] at *; omega) (fun a b => by rw [hle, hle, Bool.or_eq_true, decide_eq_true_eq, decide_eq_true_eq]; omega) ((apartF ws).map (wat ws))
  refine List.Pairwise.imp_of_mem (fun {v w} hv hw h => ?_) (d2.and d3)
  have hin : ∀ x ∈ ((apartF ws).map (wat ws)).mergeSort le, x.1 ≤ x.2 := fun x hx => by
    obtain ⟨f, hf, rfl⟩ := List.mem_map.mp (hp.mem_iff.mp hx)
    exact ok.le _ (wat_mem (b2 f hf))
  have h1 := hin v hv
  have h2 := hin w hw
  obtain ⟨h3, h4⟩ := h
  rw [hle, decide_eq_true_eq] at h4
  omega
/-! ### windows moved on -/
def mvW (s : Nat) (w : Win) : Win := (w.1 + s, w.2 + s)
theorem cntW_mv (s : Nat) (t : List Nat) (w : Win) : cntW (t.map (· + s)) (mvW s w) = cntW t w := by
  unfold cntW
  rw [List.filter_map, List.length_map]
  congr 1
  refine List.filter_congr fun m _ => ?_
  show inW (mvW s w) (m + s) = inW w m
  unfold inW mvW
  simp only
  congr 1 <;> rw [decide_eq_decide] <;> omega
theorem fill_mv (s a : Nat) : ∀ (n l : Nat) (t : List Nat), fill (a + s) n l (t.map (· + s)) = (fill a n l t).map (List.map (· + s))
  | n, 0, t => by unfold fill; rfl
  | 0, l + 1, t => by unfold fill; rfl
  | n + 1, l + 1, t => by
    unfold fill
    have e : a + s + n ∈ t.map (· + s) ↔ a + n ∈ t := by
      rw [List.mem_map]
      constructor
      · rintro ⟨x, hx, h⟩
        have : x = a + n := by omega
        rw [← this]; exact hx
      · intro h; exact ⟨_, h, by omega⟩
    by_cases h : a + n ∈ t
    · rw [if_pos h, if_pos (e.mpr h), fill_mv s a n (l + 1) t]
    · rw [if_neg h, if_neg (fun z => h (e.mp z)), ← fill_mv s a n l (t ++ [a + n]), List.map_append]
      show fill (a + s) n l (_ ++ [a + s + n]) = fill (a + s) n l (_ ++ [a + n + s])
      rw [show a + s + n = a + n + s by omega]
theorem runW_mv (s d : Nat) : ∀ (ws : List Win) (t : List Nat), runW d (ws.map (mvW s)) (t.map (· + s)) = (runW d ws t).map (List.map (· + s))
  | [], t => rfl
  | w :: ws, t => by
    rw [List.map_cons]
    unfold runW
    have e : stepW d (t.map (· + s)) (mvW s w) = (stepW d t w).map (List.map (· + s)) := by
      unfold stepW
      rw [cntW_mv]
      show fill (w.1 + s) (w.2 + s + 1 - (w.1 + s)) _ _ = _
      rw [show w.2 + s + 1 - (w.1 + s) = w.2 + 1 - w.1 by omega, fill_mv]
    rw [e]
    cases stepW d t w with
    | none => rfl
    | some u => exact runW_mv s d ws u
theorem framesF_mv (s d : Nat) (ws : List Win) : framesF (ws.map (mvW s)) d = (framesF ws d).map (List.map (· + s)) := by
  unfold framesF
  have e : srtW (ws.map (mvW s)) = (srtW ws).map (mvW s) := by
    unfold srtW
    refine (List.map_mergeSort fun a _ b _ => ?_).symm
    unfold leW mvW
    rw [decide_eq_decide]
    simp only
    omega
  rw [e]
  have := runW_mv s d (srtW ws) []
  rw [List.map_nil] at this
  rw [this, Option.map_map, Option.map_map]
  cases runW d (srtW ws) [] with
  | none => rfl
  | some t =>
    show some (sortN (t.map (· + s))) = some ((sortN t).map (· + s))
    congr 1
    refine le_uniq (sortN_le _) ?_ ((sortN_perm _).trans ((sortN_perm t).map _).symm)
    rw [List.pairwise_map]
    exact (sortN_le t).imp fun h => by omega
end K13

set_option Elab.async false
set_option linter.all false
set_option maxRecDepth 100000
/-! M3: the mathematics of blinks. -/
namespace K13
open PySem PySem.Spec PyProof.Rows L2 DL
abbrev Bl := List (Nat × Nat)
/-- the first mark told at the moments that leave r over -/
def resAt (b : Bl) (p r : Nat) : Option Nat := (b.find? fun x => x.1 % p == r).map (·.2)
def fitB (b : Bl) (p : Nat) : Bool := b.all fun x => decide (resAt b p (x.1 % p) = some x.2)
structure OkB (b : Bl) : Prop where
  n1 : 1 ≤ b.length
  nm : b.length ≤ 40
  lt : ∀ x ∈ b, x.1 ≤ 10000
  m2 : ∀ x ∈ b, x.2 < 2
  inc : b.Pairwise fun x y => x.1 < y.1
theorem resAt_app {b c : Bl} {p r : Nat} : resAt (b ++ c) p r = (resAt b p r).or (resAt c p r) := by
  unfold resAt
  rw [List.find?_append]
  cases b.find? fun x => x.1 % p == r <;> rfl
theorem resAt_none {b : Bl} {p r : Nat} : resAt b p r = none ↔ ∀ x ∈ b, x.1 % p ≠ r := by
  unfold resAt
  rw [Option.map_eq_none_iff, List.find?_eq_none]
  simp
theorem resAt_mem {b : Bl} {p r v : Nat} (h : resAt b p r = some v) : ∃ x ∈ b, x.1 % p = r ∧ x.2 = v := by
  unfold resAt at h
  rw [Option.map_eq_some_iff] at h
  obtain ⟨x, h1, h2⟩ := h
  exact ⟨x, List.mem_of_find?_eq_some h1, by simpa using List.find?_some h1, h2⟩
theorem fitB_iff {b : Bl} {p : Nat} : fitB b p = true ↔ ∀ x ∈ b, ∀ y ∈ b, x.1 % p = y.1 % p → x.2 = y.2 := by
  unfold fitB
  rw [List.all_eq_true]
  constructor
  · intro h x hx y hy e
    have a := of_decide_eq_true (h x hx)
    have b := of_decide_eq_true (h y hy)
    rw [e, b] at a
    exact (Option.some.inj a).symm
  · intro h x hx
    rw [decide_eq_true_eq]
    cases e : resAt b p (x.1 % p) with
    | none => exact absurd rfl (resAt_none.mp e x hx)
    | some v =>
      obtain ⟨y, hy, h1, h2⟩ := resAt_mem e
      rw [← h2, h y hy x hx h1]
theorem resAt_fit {b : Bl} {p : Nat} (h : fitB b p = true) {x : Nat × Nat} (hx : x ∈ b) : resAt b p (x.1 % p) = some x.2 := by
  unfold fitB at h
  exact of_decide_eq_true (List.all_eq_true.mp h x hx)
def goods (b : Bl) (P : Nat) : List Nat := ((List.range P).map (· + 1)).filter (fitB b)
theorem mem_goods {b : Bl} {P q : Nat} : q ∈ goods b P ↔ 1 ≤ q ∧ q ≤ P ∧ fitB b q = true := by
  unfold goods
  rw [List.mem_filter, List.mem_map]
  constructor
  · rintro ⟨⟨i, hi, rfl⟩, h⟩
    rw [List.mem_range] at hi
    exact ⟨by omega, by omega, h⟩
  · rintro ⟨h1, h2, h3⟩
    exact ⟨⟨q - 1, List.mem_range.mpr (by omega), by omega⟩, h3⟩
theorem goods_inc (b : Bl) (P : Nat) : Inc (goods b P) := by
  refine List.Pairwise.filter _ ?_
  rw [List.pairwise_map]
  exact List.pairwise_lt_range.imp fun h => by omega
theorem goods_len (b : Bl) (P : Nat) : (goods b P).length ≤ P := by
  unfold goods
  have := List.length_filter_le (fitB b) ((List.range P).map (· + 1))
  rw [List.length_map, List.length_range] at this
  exact this
theorem goods_succ (b : Bl) (P : Nat) : goods b (P + 1) = goods b P ++ (if fitB b (P + 1) = true then [P + 1] else []) := by
  unfold goods
  rw [List.range_succ, List.map_append, List.filter_append]
  congr 1
  rw [List.map_cons, List.map_nil, List.filter_cons]
  rfl
/-! ### changes that keep what fits -/
theorem fit_of {b c : Bl} {p : Nat} {f : Nat × Nat → Nat × Nat} (hc : c = b.map f) (h1 : ∀ x ∈ b, ∀ y ∈ b, ((f x).1 % p = (f y).1 % p ↔ x.1 % p = y.1 % p)) (h2 : ∀ x ∈ b, ∀ y ∈ b, ((f x).2 = (f y).2 ↔ x.2 = y.2)) : fitB c p = fitB b p := by
  subst hc
  rw [Bool.eq_iff_iff, fitB_iff, fitB_iff]
  constructor
  · intro h x hx y hy e
    exact (h2 x hx y hy).mp (h _ (List.mem_map.mpr ⟨x, hx, rfl⟩) _ (List.mem_map.mpr ⟨y, hy, rfl⟩) ((h1 x hx y hy).mpr e))
  · intro h x hx y hy e
    obtain ⟨x', hx', rfl⟩ := List.mem_map.mp hx
    obtain ⟨y', hy', rfl⟩ := List.mem_map.mp hy
    exact (h2 x' hx' y' hy').mpr (h x' hx' y' hy' ((h1 x' hx' y' hy').mp e))
theorem goods_congr {b c : Bl} {P : Nat} (h : ∀ p, 1 ≤ p → fitB c p = fitB b p) : goods c P = goods b P := by
  unfold goods
  refine List.filter_congr fun x hx => ?_
  obtain ⟨i, _, rfl⟩ := List.mem_map.mp hx
  exact h _ (by omega)
def mvB (s : Nat) (x : Nat × Nat) : Nat × Nat := (x.1 + s, x.2)
def exB (x : Nat × Nat) : Nat × Nat := (x.1, 1 - x.2)
theorem mod_add_iff {a b s p : Nat} : (a + s) % p = (b + s) % p ↔ a % p = b % p := by
  have := @Int.emod_add_cancel_right (a : Int) (p : Int) (b : Int) (s : Int)
  exact_mod_cast this
/-! ### the mark of a moment -/
def rs (mo : Int) (q : Nat) : Nat := (mo % (q : Int)).toNat
theorem rs_lt {mo : Int} {q : Nat} (h : 1 ≤ q) : rs mo q < q := by
  have h1 := Int.emod_nonneg mo (show ((q : Nat) : Int) ≠ 0 by omega)
  have h2 := Int.emod_lt_of_pos mo (show (0 : Int) < (q : Nat) by omega)
  unfold rs; omega
theorem rs_cast {mo : Int} {q : Nat} (h : 1 ≤ q) : ((rs mo q : Nat) : Int) = mo % (q : Int) := by
  have h1 := Int.emod_nonneg mo (show ((q : Nat) : Int) ≠ 0 by omega)
  unfold rs; omega
theorem rs_iff {mo : Int} {q x : Nat} (h : 1 ≤ q) : x % q = rs mo q ↔ ((x : Nat) : Int) % (q : Int) = mo % (q : Int) := by
  have h1 := rs_cast (mo := mo) h
  have h2 : ((x % q : Nat) : Int) = (x : Int) % (q : Int) := Int.natCast_emod x q
  rw [← h1, ← h2]
  exact ⟨fun e => by rw [e], fun e => Int.ofNat.inj e⟩
def says (b : Bl) (gs : List Nat) (mo : Int) : List (Option Nat) := gs.map fun q => resAt b q (rs mo q)
def mkK (o : Option Nat) : Key := match o with | none => .inr "perhaps" | some x => .inl x
def addK (ks : List Key) (k : Key) : List Key := if (ks.any fun a => decide (a = k)) = true then ks else ks ++ [k]
def sayK (ks : List Key) : D := match ks with | [] => .str "none" | [k] => unKey k | _ => .str "perhaps"
theorem any_K {ks : List Key} {k : Key} : (ks.any fun a => decide (a = k)) = true ↔ k ∈ ks := by
  rw [List.any_eq_true]
  exact ⟨fun ⟨a, h, e⟩ => by rw [← of_decide_eq_true e]; exact h, fun h => ⟨k, h, decide_eq_true rfl⟩⟩
theorem mem_addK {ks : List Key} {k x : Key} : x ∈ addK ks k ↔ x ∈ ks ∨ x = k := by
  unfold addK
  split
  · rename_i h
    exact ⟨.inl, fun z => by rcases z with z | z; exact z; rw [z]; exact any_K.mp h⟩
  · rw [List.mem_append, List.mem_singleton]
theorem nodup_addK {ks : List Key} {k : Key} (h : ks.Nodup) : (addK ks k).Nodup := by
  unfold addK
  split
  · exact h
  · rename_i hn
    rw [List.nodup_append]
    refine ⟨h, List.nodup_cons.mpr ⟨nofun, List.nodup_nil⟩, fun a ha b hb => ?_⟩
    rw [List.mem_singleton.mp hb]
    intro e
    exact hn (any_K.mpr (e ▸ ha))
theorem mem_foldK {x : Key} : ∀ {l ks : List Key}, x ∈ l.foldl addK ks ↔ x ∈ ks ∨ x ∈ l
  | [], ks => by simp
  | k :: l, ks => by rw [List.foldl_cons, mem_foldK, mem_addK, List.mem_cons, or_assoc]
theorem nodup_foldK : ∀ {l ks : List Key}, ks.Nodup → (l.foldl addK ks).Nodup
  | [], _, h => h
  | k :: l, _, h => by rw [List.foldl_cons]; exact nodup_foldK (nodup_addK h)
def markV (l : List (Option Nat)) : D := if l = [] then .str "none" else if ∀ o ∈ l, o = some 1 then eN 1 else if ∀ o ∈ l, o = some 0 then eN 0 else .str "perhaps"
theorem one_of {ks : List Key} {k : Key} (h : ks.Nodup) (h0 : ks ≠ []) (h1 : ∀ x ∈ ks, x = k) : ks = [k] := by
  match ks, h, h0, h1 with
  | [a], _, _, h1 => rw [h1 a List.mem_cons_self]
  | a :: b :: r, h, _, h1 =>
    rw [List.nodup_cons] at h
    have e : a = b := (h1 a List.mem_cons_self).trans (h1 b (List.mem_cons_of_mem _ List.mem_cons_self)).symm
    exact absurd (e ▸ List.mem_cons_self) h.1
theorem sayK_mark {l : List (Option Nat)} (h2 : ∀ x, some x ∈ l → x < 2) : sayK ((l.map mkK).foldl addK []) = markV l := by
  unfold markV
  by_cases h0 : l = []
  · rw [if_pos h0, h0]; rfl
  · rw [if_neg h0]
    have nd : ((l.map mkK).foldl addK []).Nodup := nodup_foldK List.nodup_nil
    have mem : ∀ x, x ∈ (l.map mkK).foldl addK [] ↔ x ∈ l.map mkK := fun x => by rw [mem_foldK]; simp
    have ne : (l.map mkK).foldl addK [] ≠ [] := fun z => by
      obtain ⟨a, ha⟩ := List.exists_mem_of_ne_nil _ h0
      have := (mem (mkK a)).mpr (List.mem_map.mpr ⟨a, ha, rfl⟩)
      rw [z] at this
      cases this
    revert nd mem ne
    generalize (l.map mkK).foldl addK [] = ks
    intro nd mem ne
    have all : ∀ o, (∀ a ∈ l, a = o) → ks = [mkK o] := fun o ho => one_of nd ne fun x hx => by
      obtain ⟨a, ha, rfl⟩ := List.mem_map.mp ((mem x).mp hx)
      rw [ho a ha]
    split
    · rename_i h1
      rw [all _ h1]; rfl
    · rename_i n1
      split
      · rename_i h1
        rw [all _ h1]; rfl
      · rename_i n0
        match ks, ne, mem with
        | [k], _, mem =>
          have hk : ∀ o ∈ l, mkK o = k := fun o ho => List.mem_singleton.mp ((mem _).mpr (List.mem_map.mpr ⟨o, ho, rfl⟩))
          obtain ⟨a, ha⟩ := List.exists_mem_of_ne_nil _ h0
          cases a with
          | none => rw [← hk _ ha]; rfl
          | some x =>
            exfalso
            have hx := h2 x ha
            have hkx := hk _ ha
            have same : ∀ o ∈ l, o = some x := fun o ho => by
              have := hk o ho
              rw [← hkx] at this
              cases o with
              | none => cases this
              | some y =>
                have := Sum.inl.inj this
                rw [show y = x by omega]
            rcases (show x = 0 ∨ x = 1 by omega) with e | e
            · exact n0 (e ▸ same)
            · exact n1 (e ▸ same)
        | a :: b :: r, _, _ => rfl
theorem says_lt {b : Bl} (h : ∀ x ∈ b, x.2 < 2) {gs : List Nat} {mo : Int} {x : Nat} (hx : some x ∈ says b gs mo) : x < 2 := by
  obtain ⟨q, _, e⟩ := List.mem_map.mp hx
  obtain ⟨y, hy, _, rfl⟩ := resAt_mem e
  exact h y hy
theorem find_map {α β : Type} (f : α → β) (p : β → Bool) : ∀ l : List α, (l.map f).find? p = (l.find? fun a => p (f a)).map f
  | [] => rfl
  | a :: l => by
    rw [List.map_cons, List.find?_cons, List.find?_cons, find_map f p l]
    cases p (f a) <;> rfl
theorem find_congr {α : Type} {p q : α → Bool} : ∀ {l : List α}, (∀ a ∈ l, p a = q a) → l.find? p = l.find? q
  | [], _ => rfl
  | a :: l, h => by
    rw [List.find?_cons, List.find?_cons, h a List.mem_cons_self, find_congr fun x hx => h x (List.mem_cons_of_mem _ hx)]
theorem resAt_mv {b : Bl} {s q : Nat} {mo : Int} (hq : 1 ≤ q) : resAt (b.map (mvB s)) q (rs (mo + s) q) = resAt b q (rs mo q) := by
  unfold resAt
  rw [find_map, Option.map_map]
  have : (fun a => (mvB s a).1 % q == rs (mo + s) q) = fun x : Nat × Nat => x.1 % q == rs mo q := by
    funext a
    rw [Bool.eq_iff_iff, beq_iff_eq, beq_iff_eq, rs_iff hq, rs_iff hq]
    show (((a.1 + s : Nat) : Int) % _ = _) ↔ _
    rw [Int.natCast_add]
    exact Int.emod_add_cancel_right _
  rw [this]
  rfl
theorem resAt_ex {b : Bl} {q r : Nat} : resAt (b.map exB) q r = (resAt b q r).map (1 - ·) := by
  unfold resAt
  rw [find_map, Option.map_map, Option.map_map]
  rfl
theorem says_mv {b : Bl} {s : Nat} {gs : List Nat} {mo : Int} (h : ∀ q ∈ gs, 1 ≤ q) : says (b.map (mvB s)) gs (mo + s) = says b gs mo := List.map_congr_left fun q hq => resAt_mv (h q hq)
theorem says_ex {b : Bl} {gs : List Nat} {mo : Int} : says (b.map exB) gs mo = (says b gs mo).map (Option.map (1 - ·)) := by
  unfold says
  rw [List.map_map]
  exact List.map_congr_left fun q _ => resAt_ex
/-- the mark, or none if it is no number -/
def markN (l : List (Option Nat)) : Option Nat := if l = [] then none else if ∀ o ∈ l, o = some 1 then some 1 else if ∀ o ∈ l, o = some 0 then some 0 else none
theorem markV_N (l : List (Option Nat)) : markV l = (match markN l with | some x => eN x | none => if l = [] then .str "none" else .str "perhaps") := by
  unfold markV markN
  by_cases h0 : l = []
  · simp only [h0, if_true]
  · simp only [h0, if_false]
    split
    · rfl
    · split <;> rfl
theorem markN_all {l : List (Option Nat)} {x : Nat} (h : markN l = some x) : (∀ o ∈ l, o = some x) ∧ x < 2 ∧ l ≠ [] := by
  unfold markN at h
  split at h
  · cases h
  · rename_i h0
    split at h
    · rename_i h1; cases h; exact ⟨h1, by decide, h0⟩
    · split at h
      · rename_i h1; cases h; exact ⟨h1, by decide, h0⟩
      · cases h
theorem markN_of {l : List (Option Nat)} {x : Nat} (h : ∀ o ∈ l, o = some x) (hx : x < 2) (h0 : l ≠ []) : markN l = some x := by
  unfold markN
  rw [if_neg h0]
  rcases (show x = 1 ∨ x = 0 by omega) with e | e
  · rw [if_pos (e ▸ h), e]
  · obtain ⟨a, ha⟩ := List.exists_mem_of_ne_nil _ h0
    subst e
    rw [if_neg fun z => (by have := (h a ha).symm.trans (z a ha); cases this), if_pos h]
theorem markN_ex {l : List (Option Nat)} (h2 : ∀ x, some x ∈ l → x < 2) : markN (l.map (Option.map (1 - ·))) = (markN l).map (1 - ·) := by
  cases h : markN l with
  | some x =>
    obtain ⟨h1, hx, h0⟩ := markN_all h
    refine markN_of (x := 1 - x) (fun o ho => ?_) (by omega) (by simpa using h0)
    obtain ⟨a, ha, rfl⟩ := List.mem_map.mp ho
    rw [h1 a ha]; rfl
  | none =>
    cases h' : markN (l.map (Option.map (1 - ·))) with
    | none => rfl
    | some y =>
      obtain ⟨h1, hy, h0⟩ := markN_all h'
      have : markN l = some (1 - y) := markN_of (fun o ho => by
        have := h1 _ (List.mem_map.mpr ⟨o, ho, rfl⟩)
        cases o with
        | none => cases this
        | some x =>
          have e := Option.some.inj this
          have := h2 x ho
          have e : 1 - x = y := e
          rw [show x = 1 - y by omega]) (by omega) (by simpa using h0)
      rw [h] at this
      cases this
/-! ### the law's own count -/
theorem head_res {b : Bl} {q r : Nat} : ((b.filter fun x => x.1 % q == r).map (·.2)).head? = resAt b q r := by
  unfold resAt
  rw [List.head?_map, List.head?_filter]
theorem sub_mod {m q : Nat} {mo : Int} (hq : 1 ≤ q) : ((m : Int) - mo) % (q : Int) = 0 ↔ m % q = rs mo q := by
  rw [rs_iff hq]
  exact Int.emod_eq_emod_iff_emod_sub_eq_zero.symm
end K13

set_option Elab.async false
set_option linter.all false
set_option maxRecDepth 100000
/-! M4: what the law counts of blinks. -/
namespace K13
open PySem PySem.Spec PyProof.Rows L2 DL
def encK (ks : List Key) : List (Key × D) := ks.map fun k => (k, .bl true)
theorem put_encK (ks : List Key) (k : Key) : putD (encK ks) k (.bl true) = encK (addK ks k) := by
  have h1 : (encK ks).any (fun kv => decide (kv.1 = k)) = ks.any fun a => decide (a = k) := by
    unfold encK
    rw [List.any_map]; rfl
  unfold putD addK
  rw [h1]
  split
  · unfold encK
    rw [List.map_map]
    refine List.map_congr_left fun a _ => ?_
    show (if a = k then (a, D.bl true) else (a, D.bl true)) = (a, D.bl true)
    split <;> rfl
  · unfold encK
    rw [List.map_append]; rfl
theorem addK_len (ks : List Key) (k : Key) : (addK ks k).length ≤ ks.length + 1 := by
  unfold addK
  split
  · omega
  · rw [List.length_append, List.length_singleton]; omega
theorem foldK_len : ∀ (l ks : List Key), (l.foldl addK ks).length ≤ ks.length + l.length
  | [], ks => Nat.le_refl _
  | k :: l, ks => by
    have h1 := foldK_len l (addK ks k)
    have h2 := addK_len ks k
    rw [List.foldl_cons, List.length_cons]
    omega
theorem rep_iff {l : List (Option Nat)} {c : Nat} (hc : c ≠ 2) : l.map (·.getD 2) = List.replicate l.length c ↔ ∀ o ∈ l, o = some c := by
  rw [List.eq_replicate_iff, List.length_map]
  constructor
  · rintro ⟨_, h⟩ o ho
    have := h _ (List.mem_map.mpr ⟨o, ho, rfl⟩)
    cases o with
    | none => exact absurd this.symm hc
    | some x => exact congrArg some this
  · intro h
    refine ⟨rfl, fun x hx => ?_⟩
    obtain ⟨o, ho, rfl⟩ := List.mem_map.mp hx
    rw [h o ho]; rfl
/-! ### pairs that are told apart -/
def addQ (ps : List (Nat × Nat)) (q : Nat × Nat) : List (Nat × Nat) := if q ∈ ps then ps else ps ++ [q]
theorem mem_addQ {ps : List (Nat × Nat)} {q x : Nat × Nat} : x ∈ addQ ps q ↔ x ∈ ps ∨ x = q := by
  unfold addQ
  split
  · rename_i h
    exact ⟨.inl, fun z => by rcases z with z | z; exact z; rw [z]; exact h⟩
  · rw [List.mem_append, List.mem_singleton]
theorem nodup_addQ {ps : List (Nat × Nat)} {q : Nat × Nat} (h : ps.Nodup) : (addQ ps q).Nodup := by
  unfold addQ
  split
  · exact h
  · rename_i hn
    rw [List.nodup_append]
    refine ⟨h, List.nodup_cons.mpr ⟨nofun, List.nodup_nil⟩, fun a ha b hb => ?_⟩
    rw [List.mem_singleton.mp hb]
    intro e
    exact hn (e ▸ ha)
theorem mem_foldQ {x : Nat × Nat} : ∀ {l ks : List (Nat × Nat)}, x ∈ l.foldl addQ ks ↔ x ∈ ks ∨ x ∈ l
  | [], ks => by simp
  | k :: l, ks => by rw [List.foldl_cons, mem_foldQ, mem_addQ, List.mem_cons, or_assoc]
theorem nodup_foldQ : ∀ {l ks : List (Nat × Nat)}, ks.Nodup → (l.foldl addQ ks).Nodup
  | [], _, h => h
  | k :: l, _, h => by rw [List.foldl_cons]; exact nodup_foldQ (nodup_addQ h)
theorem foldQ_len : ∀ (l ks : List (Nat × Nat)), (l.foldl addQ ks).length ≤ ks.length + l.length
  | [], ks => Nat.le_refl _
  | k :: l, ks => by
    have h1 := foldQ_len l (addQ ks k)
    have h2 : (addQ ks k).length ≤ ks.length + 1 := by
      unfold addQ
      split
      · omega
      · rw [List.length_append, List.length_singleton]; omega
    rw [List.foldl_cons, List.length_cons]
    omega
def tagB (q : Nat) (x : Nat × Nat) : Nat × Nat := (x.1 % q, x.2)
def tags (b : Bl) (q : Nat) : List (Nat × Nat) := (b.map (tagB q)).foldl addQ []
theorem setI_len_le : ∀ ns : List Int, (setI ns).length ≤ ns.length
  | [] => Nat.le_refl _
  | i :: r => by
    have := setI_len_le r
    unfold setI
    split <;> simp only [List.length_cons] <;> omega
theorem setI_mem {x : Int} : ∀ {ns : List Int}, x ∈ setI ns ↔ x ∈ ns
  | [] => Iff.rfl
  | i :: r => by
    unfold setI
    split
    · rename_i h
      rw [List.mem_cons, setI_mem]
      exact ⟨.inr, fun z => by rcases z with z | z; rw [z]; exact setI_mem.mp h; exact z⟩
    · rw [List.mem_cons, List.mem_cons, setI_mem]
theorem setI_nodup : ∀ ns : List Int, (setI ns).Nodup
  | [] => List.nodup_nil
  | i :: r => by
    unfold setI
    split
    · exact setI_nodup r
    · rename_i h
      exact List.nodup_cons.mpr ⟨h, setI_nodup r⟩
theorem setI_len_iff : ∀ ns : List Int, ns.length = (setI ns).length ↔ ns.Nodup
  | [] => by simp [setI]
  | i :: r => by
    have h1 := setI_len_le r
    have h2 := setI_len_iff r
    unfold setI
    rw [List.nodup_cons, ← h2, List.length_cons]
    split
    · rename_i h
      rw [setI_mem] at h
      exact ⟨fun z => by omega, fun z => absurd h z.1⟩
    · rename_i h
      rw [setI_mem] at h
      rw [List.length_cons]
      exact ⟨fun z => ⟨h, by omega⟩, fun z => by omega⟩
theorem alone_iff {b : Bl} {q : Nat} {T : List (Nat × Nat)} (hT : T.Perm (tags b q)) : T.length = (setI (T.map fun x => (x.1 : Int))).length ↔ fitB b q = true := by
  have nd : T.Nodup := hT.nodup_iff.mpr (nodup_foldQ List.nodup_nil)
  have mem : ∀ x, x ∈ T ↔ x ∈ b.map (tagB q) := fun x => by
    rw [hT.mem_iff]
    unfold tags
    rw [mem_foldQ]
    simp
  rw [fitB_iff]
  have := setI_len_iff (T.map fun x => (x.1 : Int))
  rw [List.length_map] at this
  rw [this]
  constructor
  · intro h x hx y hy e
    have hx2 := (mem _).mpr (List.mem_map.mpr ⟨x, hx, rfl⟩)
    have hy2 := (mem _).mpr (List.mem_map.mpr ⟨y, hy, rfl⟩)
    have inj : ∀ {l : List (Nat × Nat)}, (l.map fun x => (x.1 : Int)).Nodup → ∀ u ∈ l, ∀ v ∈ l, u.1 = v.1 → u = v := by
      intro l
      induction l with
      | nil => intro _ u hu; cases hu
      | cons a l ih =>
        intro hn u hu v hv e
        rw [List.map_cons, List.nodup_cons] at hn
        rcases List.mem_cons.mp hu with eu | hu2
        · rcases List.mem_cons.mp hv with ev | hv2
          · rw [eu, ev]
          · rw [eu] at e
            exact absurd (List.mem_map.mpr ⟨v, hv2, by rw [e]⟩) hn.1
        · rcases List.mem_cons.mp hv with ev | hv2
          · rw [ev] at e
            exact absurd (List.mem_map.mpr ⟨u, hu2, by rw [e]⟩) hn.1
          · exact ih hn.2 u hu2 v hv2 e
    have : tagB q x = tagB q y := inj h _ hx2 _ hy2 e
    have e2 : (tagB q x).2 = (tagB q y).2 := by rw [this]
    exact e2
  · intro h
    rw [List.nodup_iff_pairwise_ne, List.pairwise_map]
    refine (List.nodup_iff_pairwise_ne.mp nd).imp_of_mem fun {u v} hu hv hne e => hne ?_
    obtain ⟨x, hx, rfl⟩ := List.mem_map.mp ((mem u).mp hu)
    obtain ⟨y, hy, rfl⟩ := List.mem_map.mp ((mem v).mp hv)
    have e : x.1 % q = y.1 % q := Int.ofNat.inj e
    show (x.1 % q, x.2) = (y.1 % q, y.2)
    rw [e, h x hx y hy e]
/-! ### blinks that were drawn -/
structure DrB (b : Bl) (p : Nat) (word : List Nat) : Prop where
  ok : OkB b
  p1 : 1 ≤ p
  pm : p ≤ 30
  wl : word.length = p
  lt : ∀ x ∈ b, x.1 < 9000
  w2 : ∀ x ∈ word, x < 2
  val : ∀ x ∈ b, word[x.1 % p]? = some x.2
theorem DrB.fit {b : Bl} {p : Nat} {word : List Nat} (h : DrB b p word) : fitB b p = true := by
  rw [fitB_iff]
  intro x hx y hy e
  have h1 := h.val x hx
  have h2 := h.val y hy
  rw [e, h2] at h1
  exact (Option.some.inj h1).symm
theorem far_fit {b : Bl} {p : Nat} (h : ∀ x ∈ b, x.1 < p) (hinc : b.Pairwise fun x y => x.1 < y.1) : fitB b p = true := by
  rw [fitB_iff]
  intro x hx y hy e
  rw [Nat.mod_eq_of_lt (h x hx), Nat.mod_eq_of_lt (h y hy)] at e
  have : ∀ {l : Bl}, (l.Pairwise fun x y => x.1 < y.1) → ∀ u ∈ l, ∀ v ∈ l, u.1 = v.1 → u = v := by
    intro l
    induction l with
    | nil => intro _ u hu; cases hu
    | cons a l ih =>
      intro hn u hu v hv e
      rw [List.pairwise_cons] at hn
      rcases List.mem_cons.mp hu with eu | hu2
      · rcases List.mem_cons.mp hv with ev | hv2
        · rw [eu, ev]
        · have := hn.1 v hv2; rw [← eu] at this; omega
      · rcases List.mem_cons.mp hv with ev | hv2
        · have := hn.1 u hu2; rw [← ev] at this; omega
        · exact ih hn.2 u hu2 v hv2 e
  rw [this hinc x hx y hy e]
theorem unlike_not {b : Bl} {x y : Nat × Nat} (hx : x ∈ b) (hy : y ∈ b) (hne : x.2 ≠ y.2) (hlt : y.1 < x.1) : fitB b (x.1 - y.1) = false := by
  rw [← Bool.not_eq_true, fitB_iff]
  intro h
  refine hne (h x hx y hy ?_)
  have e : x.1 = y.1 + (x.1 - y.1) := by omega
  generalize x.1 - y.1 = u at e ⊢
  rw [e]
  exact Nat.add_mod_right _ _
theorem mark_word {b : Bl} {p P : Nat} {word : List Nat} (h : DrB b p word) (hp : p ≤ P) {mo : Int} {x : Nat} (hm : markN (says b (goods b P) mo) = some x) : word[rs mo p]? = some x := by
  obtain ⟨h1, _, _⟩ := markN_all hm
  have hg : p ∈ goods b P := mem_goods.mpr ⟨h.p1, hp, h.fit⟩
  have := h1 _ (List.mem_map.mpr ⟨p, hg, rfl⟩)
  obtain ⟨y, hy, e1, e2⟩ := resAt_mem this
  rw [← e1, ← e2]
  exact h.val y hy
theorem ok_mv {b : Bl} (h : OkB b) {s : Nat} (hs : ∀ x ∈ b, x.1 + s ≤ 10000) : OkB (b.map (mvB s)) :=
  ⟨by rw [List.length_map]; exact h.n1, by rw [List.length_map]; exact h.nm, fun x hx => by obtain ⟨y, hy, rfl⟩ := List.mem_map.mp hx; exact hs y hy, fun x hx => by obtain ⟨y, hy, rfl⟩ := List.mem_map.mp hx; exact h.m2 y hy, by rw [List.pairwise_map]; exact h.inc.imp fun hlt => Nat.add_lt_add_right hlt s⟩
theorem ok_ex {b : Bl} (h : OkB b) : OkB (b.map exB) :=
  ⟨by rw [List.length_map]; exact h.n1, by rw [List.length_map]; exact h.nm, fun x hx => by obtain ⟨y, hy, rfl⟩ := List.mem_map.mp hx; exact h.lt y hy, fun x hx => by obtain ⟨y, hy, rfl⟩ := List.mem_map.mp hx; show 1 - y.2 < 2; omega, by rw [List.pairwise_map]; exact h.inc⟩
theorem goods_mv {b : Bl} {s P : Nat} : goods (b.map (mvB s)) P = goods b P := goods_congr fun p _ => fit_of rfl (fun _ _ _ _ => mod_add_iff) fun _ _ _ _ => Iff.rfl
theorem goods_ex {b : Bl} (h : OkB b) {P : Nat} : goods (b.map exB) P = goods b P := goods_congr fun p _ => fit_of rfl (fun _ _ _ _ => Iff.rfl) fun x hx y hy => by
  have := h.m2 x hx
  have := h.m2 y hy
  show 1 - x.2 = 1 - y.2 ↔ _
  omega
end K13

set_option Elab.async false
set_option linter.all false
set_option maxRecDepth 100000
namespace K13
open PySem PySem.Spec PyProof.Rows L2 DL
/-! ### the text's constructs, printed by a program of mine (gen.py) -/
def topS (i : Nat) : Stmt := PySem.Challenge.pw_everysky_k13_blinks_and_frames.main.body.getD i (.Pass ⟨0, 0, 0, 0⟩)
def nm : Nm where
  g := fun j => match j with
    | 0 => some "is_integer"
    | 1 => some "is_below"
    | 2 => some "is_between"
    | 3 => some "check_windows"
    | 4 => some "frames"
    | 5 => some "apart"
    | 6 => some "check_blinks"
    | 7 => some "marks_of"
    | 8 => some "fits"
    | 9 => some "check_greatest"
    | 10 => some "periods"
    | 11 => some "mark"
    | 12 => some "_law_cell"
    | 13 => some "_law_stream"
    | 14 => some "_law_draw"
    | 15 => some "_law_read"
    | 16 => some "_law_told"
    | 17 => some "_law_common"
    | 18 => some "_law_lowest"
    | 19 => some "_law_plus"
    | 20 => some "_law_power"
    | 21 => some "_law_sets"
    | 22 => some "_law_blinks"
    | 23 => some "_law_greatest"
    | 24 => some "_law_far_right"
    | 25 => some "_law_mark"
    | 26 => some "_law_windows"
    | 27 => some "_law_told_periods"
    | 28 => some "law"
    | _ => none
  k := fun j => match j with
    | 0 => some "MOST_WINDOWS"
    | 1 => some "MOST_MOMENT_frames"
    | 2 => some "MOST_FRAMES"
    | 3 => some "MOST_BLINKS"
    | 4 => some "MOST_MOMENT_blinks"
    | 5 => some "MOST_PERIOD"
    | _ => none
  c := fun j => match j with
    | _ => none
  f := fun j => match j with
    | _ => []
  m := fun c j => match c, j with
    | _, _ => none
  i := fun j => match j with
    | _ => 0
  told := some "_law_told"
  rd := 15
def cst (j : Nat) : Option Int := match j with
  | 0 => some 40
  | 1 => some 1000
  | 2 => some 20
  | 3 => some 40
  | 4 => some 10000
  | 5 => some 2000
  | _ => none
/-- is_integer -/
def f_is_integer : SIs := (.cons 
  (.ret (.and (.isi (.v 0) .int) (.one (.not (.isi (.v 0) .bool))))) (.nil))
/-- is_below -/
def f_is_below : SIs := (.cons 
  (.ret (.and (.call 0 (.cons (.v 0) .nil)) (.one (.chain .LtE .Lt (.int 0) (.v 0) (.v 1))))) (.nil))
/-- is_between -/
def f_is_between : SIs := (.cons 
  (.ret (.and (.call 0 (.cons (.v 0) .nil)) (.one (.chain .LtE .LtE (.v 1) (.v 0) (.v 2))))) (.nil))
/-- check_windows -/
def f_check_windows : SIs := (.cons 
  (.if_ (.or (.not (.isi (.v 0) .tuple)) (.one (.not (.chain .LtE .LtE (.int 1) (.bi .len (.cons (.v 0) .nil)) (.gl 0))))) (.cons 
    .never (.nil)) .nil) (.cons 
  (.for_ (.n 1) (.val (.v 0)) (.cons 
    (.if_ (.or (.not (.isi (.v 1) .tuple)) (.one (.cmp .NotEq (.bi .len (.cons (.v 1) .nil)) (.int 2)))) (.cons 
      .never (.nil)) .nil) (.cons 
    (.if_ (.or (.not (.bi .all (.cons (.lc (.n 2) (.val (.v 1)) .no (.call 2 (.cons (.v 2) (.cons (.int 0) (.cons (.gl 1) .nil)))) [2]) .nil))) (.one (.cmp .Gt (.ix (.v 1) (.int 0)) (.ix (.v 1) (.int 1))))) (.cons 
      .never (.nil)) .nil) (.nil)))) (.nil)))
/-- frames -/
def f_frames : SIs := (.cons 
  (.ex (.call 3 (.cons (.v 0) .nil))) (.cons 
  (.if_ (.not (.call 2 (.cons (.v 1) (.cons (.int 1) (.cons (.gl 2) .nil))))) (.cons 
    .never (.nil)) .nil) (.cons 
  (.asg (.n 2) .newd) (.cons 
  (.for_ (.cons (.n 3) (.cons (.n 4) .nil)) (.val (.srtk (.v 0) [] (.tup (.cons (.ix (.v 0) (.int 1)) (.cons (.ix (.v 0) (.int 0)) .nil))))) (.cons 
    (.asg (.n 5) (.bin .Sub (.v 1) (.bi .len (.cons (.lock (.lc (.n 6) (.val (.v 2)) (.yes (.chain .LtE .LtE (.v 3) (.v 6) (.v 4))) (.v 6) [6])) .nil)))) (.cons 
    (.asg (.n 6) (.v 4)) (.cons 
    (.while_ (.cmp .Gt (.v 5) (.int 0)) (.cons 
      (.if_ (.cmp .Lt (.v 6) (.v 3)) (.cons 
        (.ret .non) (.nil)) .nil) (.cons 
      (.if_ (.cmp .NotIn (.v 6) (.v 2)) (.cons 
        (.put (.v 2) (.v 6) (.bl true)) (.cons 
        (.aug 5 .Sub (.int 1)) (.nil))) .nil) (.cons 
      (.aug 6 .Sub (.int 1)) (.nil))))) (.nil))))) (.cons 
  (.ret (.bi .tuple (.cons (.bi .sortd (.cons (.v 2) .nil)) .nil))) (.nil))))))
/-- apart -/
def f_apart : SIs := (.cons 
  (.ex (.call 3 (.cons (.v 0) .nil))) (.cons 
  (.par 1 2 (.newl .nil) (.neg (.int 1))) (.cons 
  (.for_ (.n 3) (.val (.srtr (.bi .len (.cons (.v 0) .nil)) [0] (.tup (.cons (.ix (.ix (.v 1) (.v 0)) (.int 1)) (.cons (.v 0) .nil))))) (.cons 
    (.if_ (.cmp .Gt (.ix (.ix (.v 0) (.v 3)) (.int 0)) (.v 2)) (.cons 
      (.app (.v 1) (.v 3)) (.cons 
      (.asg (.n 2) (.ix (.ix (.v 0) (.v 3)) (.int 1))) (.nil))) .nil) (.nil))) (.cons 
  (.ret (.bi .tuple (.cons (.bi .sorted (.cons (.v 1) .nil)) .nil))) (.nil)))))
/-- check_blinks -/
def f_check_blinks : SIs := (.cons 
  (.if_ (.or (.not (.isi (.v 0) .tuple)) (.one (.not (.chain .LtE .LtE (.int 1) (.bi .len (.cons (.v 0) .nil)) (.gl 3))))) (.cons 
    .never (.nil)) .nil) (.cons 
  (.for_ (.n 1) (.val (.v 0)) (.cons 
    (.if_ (.or (.not (.isi (.v 1) .tuple)) (.one (.cmp .NotEq (.bi .len (.cons (.v 1) .nil)) (.int 2)))) (.cons 
      .never (.nil)) .nil) (.cons 
    (.if_ (.or (.not (.call 2 (.cons (.ix (.v 1) (.int 0)) (.cons (.int 0) (.cons (.gl 4) .nil))))) (.one (.not (.call 1 (.cons (.ix (.v 1) (.int 1)) (.cons (.int 2) .nil)))))) (.cons 
      .never (.nil)) .nil) (.nil)))) (.cons 
  (.if_ (.not (.bi .all (.cons (.lc (.n 2) (.rng2 (.int 1) (.bi .len (.cons (.v 0) .nil))) .no (.cmp .Lt (.ix (.ix (.v 0) (.bin .Sub (.v 2) (.int 1))) (.int 0)) (.ix (.ix (.v 0) (.v 2)) (.int 0))) [2]) .nil))) (.cons 
    .never (.nil)) .nil) (.nil))))
/-- marks_of -/
def f_marks_of : SIs := (.cons 
  (.asg (.n 2) .newd) (.cons 
  (.for_ (.cons (.n 3) (.cons (.n 4) .nil)) (.val (.v 0)) (.cons 
    (.if_ (.cmp .NotEq (.sdef (.v 2) (.bin .Mod (.v 3) (.v 1)) (.v 4)) (.v 4)) (.cons 
      (.ret .non) (.nil)) .nil) (.nil))) (.cons 
  (.ret (.v 2)) (.nil))))
/-- fits -/
def f_fits : SIs := (.cons 
  (.ex (.call 6 (.cons (.v 0) .nil))) (.cons 
  (.if_ (.or (.not (.call 0 (.cons (.v 1) .nil))) (.one (.cmp .Lt (.v 1) (.int 1)))) (.cons 
    .never (.nil)) .nil) (.cons 
  (.ret (.cmp .IsNot (.call 7 (.cons (.v 0) (.cons (.v 1) .nil))) .non)) (.nil))))
/-- check_greatest -/
def f_check_greatest : SIs := (.cons 
  (.if_ (.not (.call 2 (.cons (.v 0) (.cons (.int 1) (.cons (.gl 5) .nil))))) (.cons 
    .never (.nil)) .nil) (.nil))
/-- periods -/
def f_periods : SIs := (.cons 
  (.ex (.call 6 (.cons (.v 0) .nil))) (.cons 
  (.ex (.call 9 (.cons (.v 1) .nil))) (.cons 
  (.ret (.bi .tuple (.cons (.lc (.n 2) (.rng2 (.int 1) (.bin .Add (.v 1) (.int 1))) (.yes (.cmp .IsNot (.call 7 (.cons (.v 0) (.cons (.v 2) .nil))) .non)) (.v 2) [2]) .nil))) (.nil))))
/-- mark -/
def f_mark : SIs := (.cons 
  (.ex (.call 6 (.cons (.v 0) .nil))) (.cons 
  (.ex (.call 9 (.cons (.v 1) .nil))) (.cons 
  (.if_ (.not (.call 0 (.cons (.v 2) .nil))) (.cons 
    .never (.nil)) .nil) (.cons 
  (.asg (.n 3) .newd) (.cons 
  (.for_ (.n 4) (.rng2 (.int 1) (.bin .Add (.v 1) (.int 1))) (.cons 
    (.asg (.n 5) (.call 7 (.cons (.v 0) (.cons (.v 4) .nil)))) (.cons 
    (.if_ (.cmp .IsNot (.v 5) .non) (.cons 
      (.put (.v 3) (.get2 (.v 5) (.bin .Mod (.v 2) (.v 4)) (.str "perhaps")) (.bl true)) (.nil)) .nil) (.nil)))) (.cons 
  (.if_ (.cmp .Eq (.bi .len (.cons (.v 3) .nil)) (.int 0)) (.cons 
    (.ret (.str "none")) (.nil)) .nil) (.cons 
  (.ret (.ite (.cmp .Eq (.bi .len (.cons (.v 3) .nil)) (.int 1)) (.ix (.bi .listd (.cons (.v 3) .nil)) (.int 0)) (.str "perhaps"))) (.nil))))))))
/-- _law_cell -/
def f__law_cell : SIs := (.cons 
  (.ret (.ite (.cmp .Lt (.v 1) (.bi .len (.cons (.v 0) .nil))) (.bi .abs (.cons (.bi .int (.cons (.ix (.v 0) (.v 1)) .nil)) .nil)) (.int 0))) (.nil))
/-- _law_stream -/
def f__law_stream : SIs := (.cons 
  (.ret (.newl (.cons (.call 12 (.cons (.v 0) (.cons (.v 1) .nil))) (.cons (.bin .Add (.int 1) (.bin .Mod (.bin .Mult (.int 48271) (.call 12 (.cons (.v 0) (.cons (.v 1) .nil)))) (.int 2147483647))) .nil)))) (.nil))
/-- _law_draw -/
def f__law_draw : SIs := (.cons 
  (.if_ (.cmp .Gt (.ix (.v 0) (.int 0)) (.int 0)) (.cons 
    (.asg (.n 2) (.ix (.v 0) (.int 0))) (.cons 
    (.put (.v 0) (.int 0) (.bi .int (.cons (.bin .FloorDiv (.v 2) (.v 1)) .nil))) (.cons 
    (.ret (.bi .int (.cons (.bin .Mod (.v 2) (.v 1)) .nil))) (.nil)))) .nil) (.cons 
  (.put (.v 0) (.int 1) (.bin .Mod (.bin .Mult (.int 69621) (.ix (.v 0) (.int 1))) (.int 2147483647))) (.cons 
  (.ret (.bi .int (.cons (.bin .Mod (.bin .FloorDiv (.ix (.v 0) (.int 1)) (.int 7)) (.v 1)) .nil))) (.nil))))
/-- _law_read -/
def f__law_read : SIs := (.cons 
  (.if_ (.or (.cmp .Is (.v 0) .non) (.or (.cmp .Is (.v 0) (.bl true)) (.one (.cmp .Is (.v 0) (.bl false))))) (.cons 
    (.ret (.v 0)) (.nil)) .nil) (.cons 
  (.if_ (.isi (.v 0) .int) (.cons 
    (.ret (.bi .int (.cons (.v 0) .nil))) (.nil)) .nil) (.cons 
  (.if_ (.isi (.v 0) .str) (.cons 
    (.ret (.bin .Add (.str "") (.v 0))) (.nil)) .nil) (.cons 
  (.if_ (.isi (.v 0) .tuple) (.cons 
    (.ret (.bi .tuple (.cons (.lc (.n 1) (.val (.v 0)) .no (.call 15 (.cons (.v 1) .nil)) [1]) .nil))) (.nil)) .nil) (.cons 
  (.ret (.ite (.isi (.v 0) .list) (.lc (.n 1) (.val (.v 0)) .no (.call 15 (.cons (.v 1) .nil)) [1]) (.str "something else"))) (.nil))))))
/-- _law_blinks -/
def f__law_blinks : SIs := (.cons 
  (.asg (.n 1) (.bin .Add (.int 1) (.call 14 (.cons (.v 0) (.cons (.int 30) .nil))))) (.cons 
  (.asg (.n 2) (.lc (.n 3) (.rng1 (.v 1)) .no (.call 14 (.cons (.v 0) (.cons (.int 2) .nil))) [3])) (.cons 
  (.asg (.n 4) (.srts (.lc (.n 5) (.rng1 (.bin .Add (.int 1) (.call 14 (.cons (.v 0) (.cons (.int 40) .nil))))) .no (.call 14 (.cons (.v 0) (.cons (.int 9000) .nil))) [5]))) (.cons 
  (.ret (.tup (.cons (.v 1) (.cons (.v 2) (.cons (.bi .tuple (.cons (.lc (.n 6) (.val (.v 4)) .no (.tup (.cons (.v 6) (.cons (.ix (.v 2) (.bin .Mod (.v 6) (.v 1))) .nil))) [6]) .nil)) .nil))))) (.nil)))))
/-- _law_greatest -/
def f__law_greatest : SIs := (.cons 
  (.asg (.n 2) (.bin .Add (.v 1) (.call 14 (.cons (.v 0) (.cons (.int 60) .nil))))) (.cons 
  (.ret (.ite (.cmp .Eq (.call 14 (.cons (.v 0) (.cons (.int 4) .nil))) (.int 0)) (.bin .Add (.v 2) (.call 14 (.cons (.v 0) (.cons (.int 1900) .nil)))) (.v 2))) (.nil)))
/-- _law_far_right -/
def f__law_far_right : SIs := (.cons 
  (.asg (.n 2) (.lc (.n 3) (.val (.v 0)) (.yes (.cmp .NotEq (.ix (.v 3) (.int 1)) (.ix (.ix (.v 0) (.int 0)) (.int 1)))) (.bin .Sub (.ix (.v 3) (.int 0)) (.ix (.ix (.v 0) (.int 0)) (.int 0))) [3])) (.cons 
  (.if_ (.and (.cmp .NotEq (.v 2) (.lst .nil)) (.one (.cmp .NotEq (.told 15 (.call 8 (.cons (.v 0) (.cons (.ix (.v 2) (.neg (.int 1))) .nil)))) (.tup (.cons (.int 0) (.cons (.bl false) .nil)))))) (.cons 
    (.ret (.bl false)) (.nil)) .nil) (.cons 
  (.ret (.cmp .Eq (.told 15 (.call 8 (.cons (.v 0) (.cons (.bin .Add (.bin .Pow (.int 10) (.int 12)) (.v 1)) .nil)))) (.tup (.cons (.int 0) (.cons (.bl true) .nil))))) (.nil))))
/-- _law_mark -/
def f__law_mark : SIs := (.cons 
  (.if_ (.cmp .Eq (.v 1) (.lst .nil)) (.cons 
    (.ret (.str "none")) (.nil)) .nil) (.cons 
  (.asg (.n 3) (.newl .nil)) (.cons 
  (.for_ (.n 4) (.val (.v 1)) (.cons 
    (.asg (.n 5) (.lc (.cons (.n 6) (.cons (.n 7) .nil)) (.val (.v 0)) (.yes (.cmp .Eq (.bin .Mod (.bin .Sub (.v 6) (.v 2)) (.v 4)) (.int 0))) (.v 7) [6, 7])) (.cons 
    (.app (.v 3) (.ite (.cmp .NotEq (.v 5) (.lst .nil)) (.ix (.v 5) (.int 0)) (.int 2))) (.nil)))) (.cons 
  (.ret (.ite (.cmp .Eq (.v 3) (.bin .Mult (.lst (.cons (.int 1) .nil)) (.bi .len (.cons (.v 3) .nil)))) (.int 1) (.ite (.cmp .Eq (.v 3) (.bin .Mult (.lst (.cons (.int 0) .nil)) (.bi .len (.cons (.v 3) .nil)))) (.int 0) (.str "perhaps")))) (.nil)))))
/-- _law_windows -/
def f__law_windows : SIs := (.cons 
  (.asg (.n 1) (.newl .nil)) (.cons 
  (.for_ (.n 2) (.rng1 (.bin .Add (.int 1) (.call 14 (.cons (.v 0) (.cons (.int 40) .nil))))) (.cons 
    (.asg (.n 3) (.call 14 (.cons (.v 0) (.cons (.int 900) .nil)))) (.cons 
    (.app (.v 1) (.tup (.cons (.v 3) (.cons (.bin .Add (.v 3) (.call 14 (.cons (.v 0) (.cons (.int 100) .nil)))) .nil)))) (.nil)))) (.cons 
  (.ret (.bi .tuple (.cons (.v 1) .nil))) (.nil))))
/-- _law_told_periods -/
def f__law_told_periods : SIs := (.cons 
  (.ret (.told 15 (.call 10 (.cons (.v 0) (.cons (.v 1) .nil))))) (.nil))
/-- law, statement by statement -/
def t_law_30 : SIs := .nil
def t_law_29 : SIs := (.cons 
  (.ret (.cmp .Eq (.told 15 (.call 4 (.cons (.v 35) (.cons (.v 24) .nil)))) (.tup (.cons (.int 0) (.cons (.bi .tuple (.cons (.lc (.n 9) (.val (.ix (.v 26) (.int 1))) .no (.bin .Add (.v 9) (.v 34)) [9]) .nil)) .nil))))) t_law_30)
def t_law_28 : SIs := (.cons 
  (.if_ (.or (.cmp .Gt (.bi .max (.cons (.lc (.cons (.n 29) (.cons (.n 30) .nil)) (.val (.v 35)) .no (.v 30) [29, 30]) .nil)) (.int 1000)) (.one (.cmp .Is (.ix (.v 26) (.int 1)) .non))) (.cons 
    (.ret (.bl true)) (.nil)) .nil) t_law_29)
def t_law_27 : SIs := (.cons 
  (.asg (.n 35) (.bi .tuple (.cons (.lc (.cons (.n 29) (.cons (.n 30) .nil)) (.val (.v 19)) .no (.tup (.cons (.bin .Add (.v 29) (.v 34)) (.cons (.bin .Add (.v 30) (.v 34)) .nil))) [29, 30]) .nil))) t_law_28)
def t_law_26 : SIs := (.cons 
  (.asg (.n 34) (.call 14 (.cons (.v 1) (.cons (.int 2) .nil)))) t_law_27)
def t_law_25 : SIs := (.cons 
  (.if_ (.cmp .IsNot (.ix (.v 27) (.int 1)) .non) (.cons 
    (.if_ (.or (.cmp .Lt (.bi .len (.cons (.ix (.v 27) (.int 1)) .nil)) (.bin .Add (.bi .len (.cons (.ix (.v 26) (.int 1)) .nil)) (.v 25))) (.one (.cmp .NotEq (.bi .list (.cons (.ix (.v 27) (.int 1)) .nil)) (.srts (.ix (.v 27) (.int 1)))))) (.cons 
      (.ret (.bl false)) (.nil)) .nil) (.cons 
    (.asg (.n 31) (.lc (.n 16) (.rng1 (.v 25)) .no (.ix (.ix (.v 27) (.int 1)) (.call 14 (.cons (.v 1) (.cons (.bi .len (.cons (.ix (.v 27) (.int 1)) .nil)) .nil)))) [16])) (.cons 
    (.asg (.n 32) (.lc (.n 9) (.val (.ix (.v 27) (.int 1))) (.yes (.cmp .NotIn (.v 9) (.v 31))) (.v 9) [9])) (.cons 
    (.if_ (.cmp .NotEq (.lc (.n 33) (.val (.v 19)) (.yes (.cmp .Lt (.bi .len (.cons (.lc (.n 9) (.val (.v 32)) (.yes (.chain .LtE .LtE (.ix (.v 33) (.int 0)) (.v 9) (.ix (.v 33) (.int 1)))) (.v 9) [9]) .nil)) (.v 24))) (.v 33) [33]) (.lst .nil)) (.cons 
      (.ret (.bl false)) (.nil)) .nil) (.nil))))) .nil) t_law_26)
def t_law_24 : SIs := (.cons 
  (.if_ (.or (.cmp .Gt (.bin .Add (.ix (.v 26) (.int 0)) (.ix (.v 27) (.int 0))) (.int 0)) (.or (.cmp .NotEq (.cmp .Is (.ix (.v 26) (.int 1)) .non) (.cmp .Lt (.v 28) (.v 24))) (.one (.cmp .NotEq (.cmp .Is (.ix (.v 27) (.int 1)) .non) (.cmp .Lt (.v 28) (.bin .Add (.v 24) (.v 25))))))) (.cons 
    (.ret (.bl false)) (.nil)) .nil) t_law_25)
def t_law_23 : SIs := (.cons 
  (.asg (.n 28) (.bi .min (.cons (.lc (.cons (.n 29) (.cons (.n 30) .nil)) (.val (.v 19)) .no (.bin .Add (.bin .Sub (.v 30) (.v 29)) (.int 1)) [29, 30]) .nil))) t_law_24)
def t_law_22 : SIs := (.cons 
  (.asg (.n 27) (.told 15 (.call 4 (.cons (.v 19) (.cons (.bin .Add (.v 24) (.v 25)) .nil))))) t_law_23)
def t_law_21 : SIs := (.cons 
  (.asg (.n 26) (.told 15 (.call 4 (.cons (.v 19) (.cons (.v 24) .nil))))) t_law_22)
def t_law_20 : SIs := (.cons 
  (.asg (.cons (.n 24) (.cons (.n 25) .nil)) (.tup (.cons (.bin .Add (.int 1) (.call 14 (.cons (.v 1) (.cons (.int 8) .nil)))) (.cons (.bin .Add (.int 1) (.call 14 (.cons (.v 1) (.cons (.int 6) .nil)))) .nil)))) t_law_21)
def t_law_19 : SIs := (.cons 
  (.if_ (.cmp .NotEq (.lc (.n 23) (.rng2 (.int 1) (.bi .len (.cons (.v 22) .nil))) (.yes (.cmp .LtE (.ix (.ix (.v 22) (.v 23)) (.int 0)) (.ix (.ix (.v 22) (.bin .Sub (.v 23) (.int 1))) (.int 1)))) (.v 23) [23]) (.lst .nil)) (.cons 
    (.ret (.bl false)) (.nil)) .nil) t_law_20)
def t_law_18 : SIs := (.cons 
  (.asg (.n 22) (.bi .sortd (.cons (.lc (.n 23) (.val (.ix (.v 21) (.int 1))) .no (.ix (.v 19) (.v 23)) [23]) .nil))) t_law_19)
def t_law_17 : SIs := (.cons 
  (.if_ (.or (.cmp .Gt (.bin .Add (.ix (.v 20) (.int 0)) (.ix (.v 21) (.int 0))) (.int 0)) (.or (.cmp .Is (.ix (.v 20) (.int 1)) .non) (.or (.cmp .NotEq (.bi .len (.cons (.ix (.v 20) (.int 1)) .nil)) (.bi .len (.cons (.ix (.v 21) (.int 1)) .nil))) (.one (.cmp .NotEq (.bi .list (.cons (.ix (.v 21) (.int 1)) .nil)) (.srts (.ix (.v 21) (.int 1)))))))) (.cons 
    (.ret (.bl false)) (.nil)) .nil) t_law_18)
def t_law_16 : SIs := (.cons 
  (.asg (.n 21) (.told 15 (.call 5 (.cons (.v 19) .nil)))) t_law_17)
def t_law_15 : SIs := (.cons 
  (.asg (.n 20) (.told 15 (.call 4 (.cons (.v 19) (.cons (.int 1) .nil))))) t_law_16)
def t_law_14 : SIs := (.cons 
  (.asg (.n 19) (.call 26 (.cons (.v 1) .nil))) t_law_15)
def t_law_13 : SIs := (.cons 
  (.if_ (.cmp .NotEq (.told 15 (.call 11 (.cons (.tup (.cons (.tup (.cons (.int 0) (.cons (.int 0) .nil))) (.cons (.tup (.cons (.int 1) (.cons (.int 1) .nil))) .nil))) (.cons (.int 1) (.cons (.int 5) .nil))))) (.tup (.cons (.int 0) (.cons (.str "none") .nil)))) (.cons 
    (.ret (.bl false)) (.nil)) .nil) t_law_14)
def t_law_12 : SIs := (.cons 
  (.for_ (.n 16) (.rng1 (.int 3)) (.cons 
    (.asg (.n 17) (.bin .Sub (.call 14 (.cons (.v 1) (.cons (.int 20000) .nil))) (.int 5000))) (.cons 
    (.asg (.n 18) (.told 15 (.call 11 (.cons (.v 4) (.cons (.v 5) (.cons (.v 17) .nil)))))) (.cons 
    (.if_ (.or (.cmp .NotEq (.v 18) (.tup (.cons (.int 0) (.cons (.call 25 (.cons (.v 4) (.cons (.bi .list (.cons (.ix (.v 6) (.int 1)) .nil)) (.cons (.v 17) .nil)))) .nil)))) (.one (.and (.cmp .In (.ix (.v 18) (.int 1)) (.tup (.cons (.int 0) (.cons (.int 1) .nil)))) (.one (.cmp .NotEq (.ix (.v 18) (.int 1)) (.ix (.v 3) (.bin .Mod (.v 17) (.v 2)))))))) (.cons 
      (.ret (.bl false)) (.nil)) .nil) (.cons 
    (.if_ (.cmp .NotEq (.told 15 (.call 11 (.cons (.v 14) (.cons (.v 5) (.cons (.bin .Add (.v 17) (.v 13)) .nil))))) (.v 18)) (.cons 
      (.ret (.bl false)) (.nil)) .nil) (.cons 
    (.if_ (.cmp .NotEq (.told 15 (.call 11 (.cons (.v 15) (.cons (.v 5) (.cons (.v 17) .nil))))) (.tup (.cons (.int 0) (.cons (.ite (.cmp .In (.ix (.v 18) (.int 1)) (.tup (.cons (.int 0) (.cons (.int 1) .nil)))) (.bin .Sub (.int 1) (.ix (.v 18) (.int 1))) (.str "perhaps")) .nil)))) (.cons 
      (.ret (.bl false)) (.nil)) .nil) (.nil))))))) t_law_13)
def t_law_11 : SIs := (.cons 
  (.if_ (.or (.cmp .NotEq (.told 15 (.call 10 (.cons (.v 14) (.cons (.v 5) .nil)))) (.v 6)) (.one (.cmp .NotEq (.call 27 (.cons (.v 15) (.cons (.v 5) .nil))) (.v 6)))) (.cons 
    (.ret (.bl false)) (.nil)) .nil) t_law_12)
def t_law_10 : SIs := (.cons 
  (.asg (.n 15) (.bi .tuple (.cons (.lc (.cons (.n 9) (.cons (.n 10) .nil)) (.val (.v 4)) .no (.tup (.cons (.v 9) (.cons (.bin .Sub (.int 1) (.v 10)) .nil))) [9, 10]) .nil))) t_law_11)
def t_law_9 : SIs := (.cons 
  (.asg (.n 14) (.bi .tuple (.cons (.lc (.cons (.n 9) (.cons (.n 10) .nil)) (.val (.v 4)) .no (.tup (.cons (.bin .Add (.v 9) (.v 13)) (.cons (.v 10) .nil))) [9, 10]) .nil))) t_law_10)
def t_law_8 : SIs := (.cons 
  (.asg (.n 13) (.call 14 (.cons (.v 1) (.cons (.int 900) .nil)))) t_law_9)
def t_law_7 : SIs := (.cons 
  (.for_ (.n 7) (.rng2 (.int 1) (.bin .Add (.v 5) (.int 1))) (.cons 
    (.asg (.n 8) .newn) (.cons 
    (.for_ (.cons (.n 9) (.cons (.n 10) .nil)) (.val (.v 4)) (.cons 
      (.put (.v 8) (.tup (.cons (.bin .Mod (.v 9) (.v 7)) (.cons (.v 10) .nil))) (.bl true)) (.nil))) (.cons 
    (.asg (.n 11) (.cmp .Eq (.bi .len (.cons (.v 8) .nil)) (.lens (.lc (.n 12) (.val (.bi .sortd (.cons (.v 8) .nil))) .no (.ix (.v 12) (.int 0)) [12])))) (.cons 
    (.if_ (.cmp .NotEq (.v 11) (.cmp .In (.v 7) (.ix (.v 6) (.int 1)))) (.cons 
      (.ret (.bl false)) (.nil)) .nil) (.nil)))))) t_law_8)
def t_law_6 : SIs := (.cons 
  (.if_ (.or (.cmp .NotEq (.ix (.v 6) (.int 0)) (.int 0)) (.or (.cmp .NotIn (.v 2) (.ix (.v 6) (.int 1))) (.one (.cmp .NotEq (.bi .list (.cons (.ix (.v 6) (.int 1)) .nil)) (.srts (.ix (.v 6) (.int 1))))))) (.cons 
    (.ret (.bl false)) (.nil)) .nil) t_law_7)
def t_law_5 : SIs := (.cons 
  (.asg (.n 6) (.told 15 (.call 10 (.cons (.v 4) (.cons (.v 5) .nil))))) t_law_6)
def t_law_4 : SIs := (.cons 
  (.if_ (.not (.call 24 (.cons (.v 4) (.cons (.v 2) .nil)))) (.cons 
    (.ret (.bl false)) (.nil)) .nil) t_law_5)
def t_law_3 : SIs := (.cons 
  (.asg (.n 5) (.call 23 (.cons (.v 1) (.cons (.v 2) .nil)))) t_law_4)
def t_law_2 : SIs := (.cons 
  (.if_ (.cmp .NotEq (.told 15 (.call 8 (.cons (.v 4) (.cons (.v 2) .nil)))) (.tup (.cons (.int 0) (.cons (.bl true) .nil)))) (.cons 
    (.ret (.bl false)) (.nil)) .nil) t_law_3)
def t_law_1 : SIs := (.cons 
  (.asg (.cons (.n 2) (.cons (.n 3) (.cons (.n 4) .nil))) (.call 22 (.cons (.v 1) .nil))) t_law_2)
def t_law_0 : SIs := (.cons 
  (.asg (.n 1) (.call 13 (.cons (.v 0) (.cons (.int 0) .nil)))) t_law_1)
def f_law : SIs := t_law_0
abbrev s_is_integer : Stmt := (topS 5)
def N_is_integer : List Str := "thing" :: []
theorem sc_is_integer : FnScope N_is_integer ["thing"] (L2.defScope s_is_integer) := C8.fnScope_by (by decide +kernel)
theorem ck_is_integer : chkSs nm { N := N_is_integer, sc := L2.defScope s_is_integer, st := stB (L2.defScope s_is_integer) } f_is_integer (L2.defBody s_is_integer) = true := by decide +kernel
abbrev s_is_below : Stmt := (topS 6)
def N_is_below : List Str := "thing" :: "bound" :: []
theorem sc_is_below : FnScope N_is_below ["thing", "bound"] (L2.defScope s_is_below) := C8.fnScope_by (by decide +kernel)
theorem ck_is_below : chkSs nm { N := N_is_below, sc := L2.defScope s_is_below, st := stB (L2.defScope s_is_below) } f_is_below (L2.defBody s_is_below) = true := by decide +kernel
abbrev s_is_between : Stmt := (topS 7)
def N_is_between : List Str := "thing" :: "low" :: "high" :: []
theorem sc_is_between : FnScope N_is_between ["thing", "low", "high"] (L2.defScope s_is_between) := C8.fnScope_by (by decide +kernel)
theorem ck_is_between : chkSs nm { N := N_is_between, sc := L2.defScope s_is_between, st := stB (L2.defScope s_is_between) } f_is_between (L2.defBody s_is_between) = true := by decide +kernel
abbrev s_check_windows : Stmt := (topS 12)
def N_check_windows : List Str := "windows" :: "window" :: "moment" :: []
theorem sc_check_windows : FnScope N_check_windows ["windows"] (L2.defScope s_check_windows) := C8.fnScope_by (by decide +kernel)
theorem ck_check_windows : chkSs nm { N := N_check_windows, sc := L2.defScope s_check_windows, st := stB (L2.defScope s_check_windows) } f_check_windows (L2.defBody s_check_windows) = true := by decide +kernel
abbrev s_frames : Stmt := (topS 13)
def N_frames : List Str := "windows" :: "d" :: "taken" :: "first" :: "last" :: "lack" :: "moment" :: []
theorem sc_frames : FnScope N_frames ["windows", "d"] (L2.defScope s_frames) := C8.fnScope_by (by decide +kernel)
theorem ck_frames : chkSs nm { N := N_frames, sc := L2.defScope s_frames, st := stB (L2.defScope s_frames), lm := true } f_frames (L2.defBody s_frames) = true := by decide +kernel
abbrev s_apart : Stmt := (topS 14)
def N_apart : List Str := "windows" :: "found" :: "end" :: "place" :: []
theorem sc_apart : FnScope N_apart ["windows"] (L2.defScope s_apart) := C8.fnScope_by (by decide +kernel)
theorem ck_apart : chkSs nm { N := N_apart, sc := L2.defScope s_apart, st := stB (L2.defScope s_apart), lm := true } f_apart (L2.defBody s_apart) = true := by decide +kernel
abbrev s_check_blinks : Stmt := (topS 19)
def N_check_blinks : List Str := "blinks" :: "blink" :: "at" :: []
theorem sc_check_blinks : FnScope N_check_blinks ["blinks"] (L2.defScope s_check_blinks) := C8.fnScope_by (by decide +kernel)
theorem ck_check_blinks : chkSs nm { N := N_check_blinks, sc := L2.defScope s_check_blinks, st := stB (L2.defScope s_check_blinks) } f_check_blinks (L2.defBody s_check_blinks) = true := by decide +kernel
abbrev s_marks_of : Stmt := (topS 20)
def N_marks_of : List Str := "blinks" :: "p" :: "found" :: "moment" :: "mark" :: []
theorem sc_marks_of : FnScope N_marks_of ["blinks", "p"] (L2.defScope s_marks_of) := C8.fnScope_by (by decide +kernel)
theorem ck_marks_of : chkSs nm { N := N_marks_of, sc := L2.defScope s_marks_of, st := stB (L2.defScope s_marks_of) } f_marks_of (L2.defBody s_marks_of) = true := by decide +kernel
abbrev s_fits : Stmt := (topS 21)
def N_fits : List Str := "blinks" :: "p" :: []
theorem sc_fits : FnScope N_fits ["blinks", "p"] (L2.defScope s_fits) := C8.fnScope_by (by decide +kernel)
theorem ck_fits : chkSs nm { N := N_fits, sc := L2.defScope s_fits, st := stB (L2.defScope s_fits) } f_fits (L2.defBody s_fits) = true := by decide +kernel
abbrev s_check_greatest : Stmt := (topS 22)
def N_check_greatest : List Str := "P" :: []
theorem sc_check_greatest : FnScope N_check_greatest ["P"] (L2.defScope s_check_greatest) := C8.fnScope_by (by decide +kernel)
theorem ck_check_greatest : chkSs nm { N := N_check_greatest, sc := L2.defScope s_check_greatest, st := stB (L2.defScope s_check_greatest) } f_check_greatest (L2.defBody s_check_greatest) = true := by decide +kernel
abbrev s_periods : Stmt := (topS 23)
def N_periods : List Str := "blinks" :: "P" :: "p" :: []
theorem sc_periods : FnScope N_periods ["blinks", "P"] (L2.defScope s_periods) := C8.fnScope_by (by decide +kernel)
theorem ck_periods : chkSs nm { N := N_periods, sc := L2.defScope s_periods, st := stB (L2.defScope s_periods) } f_periods (L2.defBody s_periods) = true := by decide +kernel
abbrev s_mark : Stmt := (topS 24)
def N_mark : List Str := "blinks" :: "P" :: "moment" :: "said" :: "p" :: "found" :: []
theorem sc_mark : FnScope N_mark ["blinks", "P", "moment"] (L2.defScope s_mark) := C8.fnScope_by (by decide +kernel)
theorem ck_mark : chkSs nm { N := N_mark, sc := L2.defScope s_mark, st := stB (L2.defScope s_mark) } f_mark (L2.defBody s_mark) = true := by decide +kernel
abbrev s__law_cell : Stmt := (topS 26)
def N__law_cell : List Str := "script" :: "k" :: []
theorem sc__law_cell : FnScope N__law_cell ["script", "k"] (L2.defScope s__law_cell) := C8.fnScope_by (by decide +kernel)
theorem ck__law_cell : chkSs nm { N := N__law_cell, sc := L2.defScope s__law_cell, st := stB (L2.defScope s__law_cell) } f__law_cell (L2.defBody s__law_cell) = true := by decide +kernel
abbrev s__law_stream : Stmt := (topS 27)
def N__law_stream : List Str := "script" :: "k" :: []
theorem sc__law_stream : FnScope N__law_stream ["script", "k"] (L2.defScope s__law_stream) := C8.fnScope_by (by decide +kernel)
theorem ck__law_stream : chkSs nm { N := N__law_stream, sc := L2.defScope s__law_stream, st := stB (L2.defScope s__law_stream) } f__law_stream (L2.defBody s__law_stream) = true := by decide +kernel
abbrev s__law_draw : Stmt := (topS 28)
def N__law_draw : List Str := "box" :: "high" :: "cell" :: []
theorem sc__law_draw : FnScope N__law_draw ["box", "high"] (L2.defScope s__law_draw) := C8.fnScope_by (by decide +kernel)
theorem ck__law_draw : chkSs nm { N := N__law_draw, sc := L2.defScope s__law_draw, st := stB (L2.defScope s__law_draw) } f__law_draw (L2.defBody s__law_draw) = true := by decide +kernel
abbrev s__law_read : Stmt := (topS 29)
def N__law_read : List Str := "told" :: "part" :: []
theorem sc__law_read : FnScope N__law_read ["told"] (L2.defScope s__law_read) := C8.fnScope_by (by decide +kernel)
theorem ck__law_read : chkSs nm { N := N__law_read, sc := L2.defScope s__law_read, st := stB (L2.defScope s__law_read) } f__law_read (L2.defBody s__law_read) = true := by decide +kernel
abbrev s__law_blinks : Stmt := (topS 36)
def N__law_blinks : List Str := "box" :: "p" :: "word" :: "i" :: "moments" :: "turn" :: "m" :: []
theorem sc__law_blinks : FnScope N__law_blinks ["box"] (L2.defScope s__law_blinks) := C8.fnScope_by (by decide +kernel)
theorem ck__law_blinks : chkSs nm { N := N__law_blinks, sc := L2.defScope s__law_blinks, st := stB (L2.defScope s__law_blinks) } f__law_blinks (L2.defBody s__law_blinks) = true := by decide +kernel
abbrev s__law_greatest : Stmt := (topS 37)
def N__law_greatest : List Str := "box" :: "p" :: "P" :: []
theorem sc__law_greatest : FnScope N__law_greatest ["box", "p"] (L2.defScope s__law_greatest) := C8.fnScope_by (by decide +kernel)
theorem ck__law_greatest : chkSs nm { N := N__law_greatest, sc := L2.defScope s__law_greatest, st := stB (L2.defScope s__law_greatest) } f__law_greatest (L2.defBody s__law_greatest) = true := by decide +kernel
abbrev s__law_far_right : Stmt := (topS 38)
def N__law_far_right : List Str := "blinks" :: "p" :: "unlike" :: "b" :: []
theorem sc__law_far_right : FnScope N__law_far_right ["blinks", "p"] (L2.defScope s__law_far_right) := C8.fnScope_by (by decide +kernel)
theorem ck__law_far_right : chkSs nm { N := N__law_far_right, sc := L2.defScope s__law_far_right, st := stB (L2.defScope s__law_far_right), tl := true } f__law_far_right (L2.defBody s__law_far_right) = true := by decide +kernel
abbrev s__law_mark : Stmt := (topS 39)
def N__law_mark : List Str := "blinks" :: "good" :: "moment" :: "marks" :: "q" :: "told" :: "m" :: "x" :: []
theorem sc__law_mark : FnScope N__law_mark ["blinks", "good", "moment"] (L2.defScope s__law_mark) := C8.fnScope_by (by decide +kernel)
theorem ck__law_mark : chkSs nm { N := N__law_mark, sc := L2.defScope s__law_mark, st := stB (L2.defScope s__law_mark) } f__law_mark (L2.defBody s__law_mark) = true := by decide +kernel
abbrev s__law_windows : Stmt := (topS 40)
def N__law_windows : List Str := "box" :: "rows" :: "turn" :: "low" :: []
theorem sc__law_windows : FnScope N__law_windows ["box"] (L2.defScope s__law_windows) := C8.fnScope_by (by decide +kernel)
theorem ck__law_windows : chkSs nm { N := N__law_windows, sc := L2.defScope s__law_windows, st := stB (L2.defScope s__law_windows) } f__law_windows (L2.defBody s__law_windows) = true := by decide +kernel
abbrev s__law_told_periods : Stmt := (topS 41)
def N__law_told_periods : List Str := "blinks" :: "P" :: []
theorem sc__law_told_periods : FnScope N__law_told_periods ["blinks", "P"] (L2.defScope s__law_told_periods) := C8.fnScope_by (by decide +kernel)
theorem ck__law_told_periods : chkSs nm { N := N__law_told_periods, sc := L2.defScope s__law_told_periods, st := stB (L2.defScope s__law_told_periods), tl := true } f__law_told_periods (L2.defBody s__law_told_periods) = true := by decide +kernel
abbrev s_law : Stmt := (topS 42)
def N_law : List Str := "script" :: "box" :: "p" :: "word" :: "blinks" :: "P" :: "good" :: "q" :: "marks" :: "m" :: "x" :: "alone" :: "key" :: "move" :: "moved" :: "other" :: "turn" :: "moment" :: "told" :: "windows" :: "one" :: "some" :: "rows" :: "i" :: "d" :: "k" :: "few" :: "more" :: "narrow" :: "first" :: "last" :: "covered" :: "left" :: "window" :: "step" :: "on" :: []
theorem sc_law : FnScope N_law ["script"] (L2.defScope s_law) := C8.fnScope_by (by decide +kernel)
theorem ck_law : chkSs nm { N := N_law, sc := L2.defScope s_law, st := stB (L2.defScope s_law), tl := true } f_law (L2.defBody s_law) = true := by decide +kernel
end K13

set_option Elab.async false
set_option linter.all false
set_option maxRecDepth 100000
set_option maxHeartbeats 1000000
/-! A1: the program's small defs. -/
namespace K13
open PySem PySem.Spec PyProof.Rows L2 DL
variable {G : Nat → Option Phi} {S : Store} {R : RE} {ds : List D}
/-! ### checks -/
def p_is_integer : Phi := fun ds S R => match ds with | [.int _] => R (.bl true) S | _ => False
def p_is_below : Phi := fun ds S R => match ds with | [.int i, .int b] => R (.bl (decide (0 ≤ i) && decide (i < b))) S | _ => False
def p_is_between : Phi := fun ds S R => match ds with | [.int i, .int a, .int b] => R (.bl (decide (a ≤ i) && decide (i ≤ b))) S | _ => False
theorem b_is_integer (hc : closed S) (h : p_is_integer ds S R) : evSs G cst f_is_integer (endE S R) (startD N_is_integer ds) S := by
  unfold p_is_integer at h
  split at h
  · simp only [evSs, evS, evE, evEs, evO, evT, evI, rdP, startD, asgP, wipeD, binP_add, binP_addT, binP_addF, binP_addS, binP_sub, binP_mul, binP_rep, binP_div, binP_mod, binP_pow, binP_shl, binP_shr, binP_and, cmpP_lt, cmpP_le, cmpP_gt, cmpP_ge, cmpP_eqI, cmpP_neI, biP_lenT, biP_lenF, biP_lenS, biP_abs, biP_int, biP_tupF, biP_tupT, biP_lstF, biP_lstT, biP_all, biP_any, biP_max, biP_min, biP_max2, biP_min2, walk_tup, walk_fl, seq_tup, seq_fl, boolP_bl, isi_int, isi_bl, isi_tup, isi_fl, isi_str, isi_non, cmpP_in, cmpP_nin, ixP_tup, ixP_fl, ixP_scr, Option.some.injEq, exists_eq_left', List.map_cons, List.map_nil, List.length_cons, List.length_nil, List.cons_append, List.nil_append, List.getElem?_cons_zero, List.getElem?_cons_succ, List.set_cons_zero, List.set_cons_succ, Nat.reduceAdd, Nat.reduceSub, List.replicate_succ, List.replicate_zero, List.append_nil, if_true, Bool.not_false, Bool.not_true, Bool.false_eq_true, if_false, reduceIte, last_get, last_set, f_is_integer, N_is_integer]
    exact endP_same (Nat.le_refl _) hc rfl h
  · cases h
theorem b_is_below (h0 : G 0 = some p_is_integer) (hc : closed S) (h : p_is_below ds S R) : evSs G cst f_is_below (endE S R) (startD N_is_below ds) S := by
  unfold p_is_below at h
  split at h
  · rename_i i b
    simp only [evSs, evS, evE, evEs, evO, evT, evI, rdP, startD, asgP, wipeD, binP_add, binP_addT, binP_addF, binP_addS, binP_sub, binP_mul, binP_rep, binP_div, binP_mod, binP_pow, binP_shl, binP_shr, binP_and, cmpP_lt, cmpP_le, cmpP_gt, cmpP_ge, cmpP_eqI, cmpP_neI, biP_lenT, biP_lenF, biP_lenS, biP_abs, biP_int, biP_tupF, biP_tupT, biP_lstF, biP_lstT, biP_all, biP_any, biP_max, biP_min, biP_max2, biP_min2, walk_tup, walk_fl, seq_tup, seq_fl, boolP_bl, isi_int, isi_bl, isi_tup, isi_fl, isi_str, isi_non, cmpP_in, cmpP_nin, ixP_tup, ixP_fl, ixP_scr, Option.some.injEq, exists_eq_left', List.map_cons, List.map_nil, List.length_cons, List.length_nil, List.cons_append, List.nil_append, List.getElem?_cons_zero, List.getElem?_cons_succ, List.set_cons_zero, List.set_cons_succ, Nat.reduceAdd, Nat.reduceSub, List.replicate_succ, List.replicate_zero, List.append_nil, if_true, Bool.not_false, Bool.not_true, Bool.false_eq_true, if_false, reduceIte, last_get, last_set, f_is_below, N_is_below, h0, p_is_integer]
    by_cases h1 : 0 ≤ i
    · rw [if_pos (decide_eq_true h1)]
      rw [decide_eq_true h1, Bool.true_and] at h
      exact endP_same (Nat.le_refl _) hc rfl h
    · rw [if_neg (by rw [decide_eq_false h1]; decide)]
      rw [decide_eq_false h1, Bool.false_and] at h
      exact endP_same (Nat.le_refl _) hc rfl h
  · cases h
theorem b_is_between (h0 : G 0 = some p_is_integer) (hc : closed S) (h : p_is_between ds S R) : evSs G cst f_is_between (endE S R) (startD N_is_between ds) S := by
  unfold p_is_between at h
  split at h
  · rename_i i a b
    simp only [evSs, evS, evE, evEs, evO, evT, evI, rdP, startD, asgP, wipeD, binP_add, binP_addT, binP_addF, binP_addS, binP_sub, binP_mul, binP_rep, binP_div, binP_mod, binP_pow, binP_shl, binP_shr, binP_and, cmpP_lt, cmpP_le, cmpP_gt, cmpP_ge, cmpP_eqI, cmpP_neI, biP_lenT, biP_lenF, biP_lenS, biP_abs, biP_int, biP_tupF, biP_tupT, biP_lstF, biP_lstT, biP_all, biP_any, biP_max, biP_min, biP_max2, biP_min2, walk_tup, walk_fl, seq_tup, seq_fl, boolP_bl, isi_int, isi_bl, isi_tup, isi_fl, isi_str, isi_non, cmpP_in, cmpP_nin, ixP_tup, ixP_fl, ixP_scr, Option.some.injEq, exists_eq_left', List.map_cons, List.map_nil, List.length_cons, List.length_nil, List.cons_append, List.nil_append, List.getElem?_cons_zero, List.getElem?_cons_succ, List.set_cons_zero, List.set_cons_succ, Nat.reduceAdd, Nat.reduceSub, List.replicate_succ, List.replicate_zero, List.append_nil, if_true, Bool.not_false, Bool.not_true, Bool.false_eq_true, if_false, reduceIte, last_get, last_set, f_is_between, N_is_between, h0, p_is_integer]
    by_cases h1 : a ≤ i
    · rw [if_pos (decide_eq_true h1)]
      rw [decide_eq_true h1, Bool.true_and] at h
      exact endP_same (Nat.le_refl _) hc rfl h
    · rw [if_neg (by rw [decide_eq_false h1]; decide)]
      rw [decide_eq_false h1, Bool.false_and] at h
      exact endP_same (Nat.le_refl _) hc rfl h
  · cases h
/-! ### pairs -/
def eP (w : Nat × Nat) : D := .tup [eN w.1, eN w.2]
def eWs (ws : List (Nat × Nat)) : D := .tup (ws.map eP)
theorem below_eP (n : Nat) (p : Nat × Nat) : below n (eP p) = true := rfl
theorem below_eWs (n : Nat) (l : List (Nat × Nat)) : below n (eWs l) = true := belows_map (below_eP n) l
def decP (d : D) : Nat × Nat := match d with | .tup [.int a, .int b] => (a.toNat, b.toNat) | _ => (0, 0)
theorem decP_eP (w : Nat × Nat) : decP (eP w) = w := rfl
/-! ### frames -/
def p_check_windows : Phi := fun ds S R => ∃ ws : List Win, ds = [eWs ws] ∧ OkW ws ∧ R .non S
theorem b_check_windows (h2 : G 2 = some p_is_between) (hc : closed S) (h : p_check_windows ds S R) : evSs G cst f_check_windows (endE S R) (startD N_check_windows ds) S := by
  obtain ⟨ws, rfl, ok, hR⟩ := h
  have n1 := ok.n1
  have nm := ok.nm
  simp only [evSs, evS, evE, evEs, evO, evT, evI, rdP, startD, asgP, wipeD, binP_add, binP_addT, binP_addF, binP_addS, binP_sub, binP_mul, binP_rep, binP_div, binP_mod, binP_pow, binP_shl, binP_shr, binP_and, cmpP_lt, cmpP_le, cmpP_gt, cmpP_ge, cmpP_eqI, cmpP_neI, biP_lenT, biP_lenF, biP_lenS, biP_abs, biP_int, biP_tupF, biP_tupT, biP_lstF, biP_lstT, biP_all, biP_any, biP_max, biP_min, biP_max2, biP_min2, walk_tup, walk_fl, seq_tup, seq_fl, boolP_bl, isi_int, isi_bl, isi_tup, isi_fl, isi_str, isi_non, cmpP_in, cmpP_nin, ixP_tup, ixP_fl, ixP_scr, Option.some.injEq, exists_eq_left', List.map_cons, List.map_nil, List.length_cons, List.length_nil, List.cons_append, List.nil_append, List.getElem?_cons_zero, List.getElem?_cons_succ, List.set_cons_zero, List.set_cons_succ, Nat.reduceAdd, Nat.reduceSub, List.replicate_succ, List.replicate_zero, List.append_nil, if_true, Bool.not_false, Bool.not_true, Bool.false_eq_true, if_false, reduceIte, last_get, last_set, f_check_windows, N_check_windows, h2, p_is_between, eWs, cst]
  rw [List.length_map, if_pos (decide_eq_true (by omega)), if_neg (by rw [decide_eq_true (by omega)]; decide)]
  refine forP_of eP (fun xs ρ S' => S' = S ∧ (∀ w ∈ xs, w ∈ ws) ∧ ∃ x1 x2, ρ = [some (.tup (ws.map eP)), x1, x2]) ws rfl ⟨rfl, fun w h => h, none, none, rfl⟩ ?_ ?_
  · rintro w xs ρ S' ⟨rfl, hm, x1, x2, rfl⟩
    refine ⟨fun z => z, fun Q hQ => ?_⟩
    have hw := hm w List.mem_cons_self
    have e1 := ok.le w hw
    have e2 := ok.lt w hw
    simp only [evSs, evS, evE, evEs, evO, evT, evI, rdP, startD, asgP, wipeD, binP_add, binP_addT, binP_addF, binP_addS, binP_sub, binP_mul, binP_rep, binP_div, binP_mod, binP_pow, binP_shl, binP_shr, binP_and, cmpP_lt, cmpP_le, cmpP_gt, cmpP_ge, cmpP_eqI, cmpP_neI, biP_lenT, biP_lenF, biP_lenS, biP_abs, biP_int, biP_tupF, biP_tupT, biP_lstF, biP_lstT, biP_all, biP_any, biP_max, biP_min, biP_max2, biP_min2, walk_tup, walk_fl, seq_tup, seq_fl, boolP_bl, isi_int, isi_bl, isi_tup, isi_fl, isi_str, isi_non, cmpP_in, cmpP_nin, ixP_tup, ixP_fl, ixP_scr, Option.some.injEq, exists_eq_left', List.map_cons, List.map_nil, List.length_cons, List.length_nil, List.cons_append, List.nil_append, List.getElem?_cons_zero, List.getElem?_cons_succ, List.set_cons_zero, List.set_cons_succ, Nat.reduceAdd, Nat.reduceSub, List.replicate_succ, List.replicate_zero, List.append_nil, if_true, Bool.not_false, Bool.not_true, Bool.false_eq_true, if_false, reduceIte, last_get, last_set, eP]
    rw [if_neg (by decide)]
    refine mapP_all eN (fun _ => .bl true) [w.1, w.2] rfl (fun x hx Q3 hQ3 => ?_) (fun z => z) (by simp) ?_
    · have hx : x ≤ 1000 := by
        rcases List.mem_cons.mp hx with z | z
        · omega
        · rw [List.mem_singleton.mp z]; exact e2
      show Q3 (some (.bl (decide ((0 : Int) ≤ (x : Int)) && decide ((x : Int) ≤ 1000)))) S'
      rw [decide_eq_true (show (0 : Int) ≤ (x : Int) by omega), decide_eq_true (show (x : Int) ≤ 1000 by omega)]
      exact hQ3
    · refine ⟨_, bls_map (f := fun _ => true) (fun _ => rfl) [w.1, w.2], ?_⟩
      rw [all_true, if_neg (by decide)]
      refine ⟨_, at0, _, at1, ?_⟩
      simp only [evSs, evS, evE, evEs, evO, evT, evI, rdP, startD, asgP, wipeD, binP_add, binP_addT, binP_addF, binP_addS, binP_sub, binP_mul, binP_rep, binP_div, binP_mod, binP_pow, binP_shl, binP_shr, binP_and, cmpP_lt, cmpP_le, cmpP_gt, cmpP_ge, cmpP_eqI, cmpP_neI, biP_lenT, biP_lenF, biP_lenS, biP_abs, biP_int, biP_tupF, biP_tupT, biP_lstF, biP_lstT, biP_all, biP_any, biP_max, biP_min, biP_max2, biP_min2, walk_tup, walk_fl, seq_tup, seq_fl, boolP_bl, isi_int, isi_bl, isi_tup, isi_fl, isi_str, isi_non, cmpP_in, cmpP_nin, ixP_tup, ixP_fl, ixP_scr, Option.some.injEq, exists_eq_left', List.map_cons, List.map_nil, List.length_cons, List.length_nil, List.cons_append, List.nil_append, List.getElem?_cons_zero, List.getElem?_cons_succ, List.set_cons_zero, List.set_cons_succ, Nat.reduceAdd, Nat.reduceSub, List.replicate_succ, List.replicate_zero, List.append_nil, if_true, Bool.not_false, Bool.not_true, Bool.false_eq_true, if_false, reduceIte, last_get, last_set, eN]
      rw [if_neg (by rw [decide_eq_false (by omega)]; decide)]
      exact hQ _ _ ⟨rfl, fun w' h' => hm w' (List.mem_cons_of_mem _ h'), _, _, rfl⟩
  · rintro ρ S' ⟨rfl, _, x1, x2, rfl⟩
    exact ⟨fun z => z, endP_same (Nat.le_refl _) hc rfl hR⟩
end K13

set_option Elab.async false
set_option linter.all false
set_option maxRecDepth 100000
set_option maxHeartbeats 1000000
/-! A2: frames. -/
namespace K13
open PySem PySem.Spec PyProof.Rows L2 DL
variable {G : Nat → Option Phi} {S : Store} {R : RE} {ds : List D}
/-- the numbers that are kept in a dict -/
def encM (t : List Nat) : List (Key × D) := t.map fun (x : Nat) => (Sum.inl ((x : Nat) : Int), D.bl true)
theorem any_encM (t : List Nat) (m : Nat) : ((encM t).any fun kv => decide (kv.1 = Sum.inl ((m : Nat) : Int))) = t.contains m := by
  unfold encM
  rw [List.any_map, Bool.eq_iff_iff, List.any_eq_true, List.contains_iff_mem]
  constructor
  · rintro ⟨x, hx, e⟩
    have e := of_decide_eq_true e
    have e : ((x : Nat) : Int) = (m : Nat) := Sum.inl.inj e
    rw [show m = x by omega]; exact hx
  · intro h
    exact ⟨m, h, decide_eq_true rfl⟩
theorem look_encM (t : List Nat) (m : Nat) : (lookD (encM t) (Sum.inl ((m : Nat) : Int))).isSome = t.contains m := by
  rw [← any_encM]
  unfold lookD
  rw [Option.isSome_map, Bool.eq_iff_iff, List.find?_isSome, List.any_eq_true]
theorem put_encM {t : List Nat} {m : Nat} (h : m ∉ t) : putD (encM t) (Sum.inl ((m : Nat) : Int)) (.bl true) = encM (t ++ [m]) := by
  unfold putD
  rw [if_neg (by rw [any_encM, List.contains_iff_mem]; exact h)]
  unfold encM
  rw [List.map_append]; rfl
theorem encM_len (t : List Nat) : (encM t).length = t.length := List.length_map _
theorem walk_encM {S : Store} {n : Nat} {t : List Nat} (e : S[n]? = some (.dct true (encM t))) : walkOf S (.ref n) = some (t.map eN) := by
  unfold walkOf
  simp only [e]
  unfold encM
  rw [List.map_map]
  rfl
theorem col_encM {S : Store} {n : Nat} {b : Bool} {t : List Nat} (e : S[n]? = some (.dct b (encM t))) : colOf S (.ref n) = some (t.map eN) := by
  unfold colOf
  simp only [e]
  unfold encM
  rw [List.map_map]
  rfl
theorem noSeqD {S : Store} {n : Nat} {lk : Bool} {kvs : List (Key × D)} {ds : List D} {P : Prop} (e : S[n]? = some (.dct lk kvs)) (h : seqOf S (.ref n) = some ds) : P := by
  unfold seqOf at h
  simp only [e] at h
  cases h
theorem fr_len {t : List Nat} (h1 : t.Nodup) (h2 : ∀ x ∈ t, x ≤ 1000) : t.length ≤ 1001 := by
  have := nodup_le h1 (m := List.range 1001) fun x hx => List.mem_range.mpr (by have := h2 x hx; omega)
  rw [List.length_range] at this
  exact this
def eO (o : Option (List Nat)) : D := match o with | none => .non | some l => eL l
def p_frames : Phi := fun ds S R => ∃ (ws : List Win) (d : Nat), ds = [eWs ws, eN d] ∧ OkW ws ∧ 1 ≤ d ∧ d ≤ 20 ∧ R (eO (framesF ws d)) S
theorem b_frames (h2 : G 2 = some p_is_between) (h3 : G 3 = some p_check_windows) (hc : closed S) (h : p_frames ds S R) : evSs G cst f_frames (endE S R) (startD N_frames ds) S := by
  obtain ⟨ws, d, rfl, ok, d1, d2, hR⟩ := h
  have n1 := ok.n1
  have nm := ok.nm
  simp only [evSs, evS, evE, evEs, evO, evT, evI, rdP, startD, asgP, wipeD, binP_add, binP_addT, binP_addF, binP_addS, binP_sub, binP_mul, binP_rep, binP_div, binP_mod, binP_pow, binP_shl, binP_shr, binP_and, cmpP_lt, cmpP_le, cmpP_gt, cmpP_ge, cmpP_eqI, cmpP_neI, biP_lenT, biP_lenF, biP_lenS, biP_abs, biP_int, biP_tupF, biP_tupT, biP_lstF, biP_lstT, biP_all, biP_any, biP_max, biP_min, biP_max2, biP_min2, walk_tup, walk_fl, seq_tup, seq_fl, boolP_bl, isi_int, isi_bl, isi_tup, isi_fl, isi_str, isi_non, cmpP_in, cmpP_nin, ixP_tup, ixP_fl, ixP_scr, Option.some.injEq, exists_eq_left', List.map_cons, List.map_nil, List.length_cons, List.length_nil, List.cons_append, List.nil_append, List.getElem?_cons_zero, List.getElem?_cons_succ, List.set_cons_zero, List.set_cons_succ, Nat.reduceAdd, Nat.reduceSub, List.replicate_succ, List.replicate_zero, List.append_nil, if_true, Bool.not_false, Bool.not_true, Bool.false_eq_true, if_false, reduceIte, last_get, last_set, f_frames, N_frames, h2, h3, p_is_between, p_check_windows]
  refine ⟨ws, rfl, ok, ?_⟩
  simp only [evSs, evS, evE, evEs, evO, evT, evI, rdP, startD, asgP, wipeD, binP_add, binP_addT, binP_addF, binP_addS, binP_sub, binP_mul, binP_rep, binP_div, binP_mod, binP_pow, binP_shl, binP_shr, binP_and, cmpP_lt, cmpP_le, cmpP_gt, cmpP_ge, cmpP_eqI, cmpP_neI, biP_lenT, biP_lenF, biP_lenS, biP_abs, biP_int, biP_tupF, biP_tupT, biP_lstF, biP_lstT, biP_all, biP_any, biP_max, biP_min, biP_max2, biP_min2, walk_tup, walk_fl, seq_tup, seq_fl, boolP_bl, isi_int, isi_bl, isi_tup, isi_fl, isi_str, isi_non, cmpP_in, cmpP_nin, ixP_tup, ixP_fl, ixP_scr, Option.some.injEq, exists_eq_left', List.map_cons, List.map_nil, List.length_cons, List.length_nil, List.cons_append, List.nil_append, List.getElem?_cons_zero, List.getElem?_cons_succ, List.set_cons_zero, List.set_cons_succ, Nat.reduceAdd, Nat.reduceSub, List.replicate_succ, List.replicate_zero, List.append_nil, if_true, Bool.not_false, Bool.not_true, Bool.false_eq_true, if_false, reduceIte, last_get, last_set, eN, cst]
  rw [if_neg (by rw [decide_eq_true (show (1 : Int) ≤ (d : Int) by omega), decide_eq_true (show (d : Int) ≤ 20 by omega)]; decide)]
  simp only [evSs, evS, evE, evEs, evO, evT, evI, rdP, startD, asgP, wipeD, binP_add, binP_addT, binP_addF, binP_addS, binP_sub, binP_mul, binP_rep, binP_div, binP_mod, binP_pow, binP_shl, binP_shr, binP_and, cmpP_lt, cmpP_le, cmpP_gt, cmpP_ge, cmpP_eqI, cmpP_neI, biP_lenT, biP_lenF, biP_lenS, biP_abs, biP_int, biP_tupF, biP_tupT, biP_lstF, biP_lstT, biP_all, biP_any, biP_max, biP_min, biP_max2, biP_min2, walk_tup, walk_fl, seq_tup, seq_fl, boolP_bl, isi_int, isi_bl, isi_tup, isi_fl, isi_str, isi_non, cmpP_in, cmpP_nin, ixP_tup, ixP_fl, ixP_scr, Option.some.injEq, exists_eq_left', List.map_cons, List.map_nil, List.length_cons, List.length_nil, List.cons_append, List.nil_append, List.getElem?_cons_zero, List.getElem?_cons_succ, List.set_cons_zero, List.set_cons_succ, Nat.reduceAdd, Nat.reduceSub, List.replicate_succ, List.replicate_zero, List.append_nil, if_true, Bool.not_false, Bool.not_true, Bool.false_eq_true, if_false, reduceIte, last_get, last_set, eWs]
  refine ⟨ws.map eP, fun x => .tuple [.int (((decP x).2 : Nat) : Int), .int (((decP x).1 : Nat) : Int)], rfl, fun x hx => ?_, ?_⟩
  · obtain ⟨w, _, rfl⟩ := List.mem_map.mp hx
    simp only [evSs, evS, evE, evEs, evO, evT, evI, rdP, startD, asgP, wipeD, binP_add, binP_addT, binP_addF, binP_addS, binP_sub, binP_mul, binP_rep, binP_div, binP_mod, binP_pow, binP_shl, binP_shr, binP_and, cmpP_lt, cmpP_le, cmpP_gt, cmpP_ge, cmpP_eqI, cmpP_neI, biP_lenT, biP_lenF, biP_lenS, biP_abs, biP_int, biP_tupF, biP_tupT, biP_lstF, biP_lstT, biP_all, biP_any, biP_max, biP_min, biP_max2, biP_min2, walk_tup, walk_fl, seq_tup, seq_fl, boolP_bl, isi_int, isi_bl, isi_tup, isi_fl, isi_str, isi_non, cmpP_in, cmpP_nin, ixP_tup, ixP_fl, ixP_scr, Option.some.injEq, exists_eq_left', List.map_cons, List.map_nil, List.length_cons, List.length_nil, List.cons_append, List.nil_append, List.getElem?_cons_zero, List.getElem?_cons_succ, List.set_cons_zero, List.set_cons_succ, Nat.reduceAdd, Nat.reduceSub, List.replicate_succ, List.replicate_zero, List.append_nil, if_true, Bool.not_false, Bool.not_true, Bool.false_eq_true, if_false, reduceIte, last_get, last_set, eP]
    refine ⟨_, at1, _, at0, size_small (by decide), trivial, rfl⟩
  refine srtP_ii eP decP decP_eP (fun w => ((w.2 : Nat) : Int)) (fun w => ((w.1 : Nat) : Int)) (size_small (by omega)) ?_
  simp only [evSs, evS, evE, evEs, evO, evT, evI, rdP, startD, asgP, wipeD, binP_add, binP_addT, binP_addF, binP_addS, binP_sub, binP_mul, binP_rep, binP_div, binP_mod, binP_pow, binP_shl, binP_shr, binP_and, cmpP_lt, cmpP_le, cmpP_gt, cmpP_ge, cmpP_eqI, cmpP_neI, biP_lenT, biP_lenF, biP_lenS, biP_abs, biP_int, biP_tupF, biP_tupT, biP_lstF, biP_lstT, biP_all, biP_any, biP_max, biP_min, biP_max2, biP_min2, walk_tup, walk_fl, seq_tup, seq_fl, boolP_bl, isi_int, isi_bl, isi_tup, isi_fl, isi_str, isi_non, cmpP_in, cmpP_nin, ixP_tup, ixP_fl, ixP_scr, Option.some.injEq, exists_eq_left', List.map_cons, List.map_nil, List.length_cons, List.length_nil, List.cons_append, List.nil_append, List.getElem?_cons_zero, List.getElem?_cons_succ, List.set_cons_zero, List.set_cons_succ, Nat.reduceAdd, Nat.reduceSub, List.replicate_succ, List.replicate_zero, List.append_nil, if_true, Bool.not_false, Bool.not_true, Bool.false_eq_true, if_false, reduceIte, last_get, last_set]
  have hmem : ∀ w, w ∈ srtW ws ↔ w ∈ ws := fun w => (srtW_perm ws).mem_iff
  refine forP_of eP (fun xs ρ S' => ∃ t x3 x4 x5 x6, S' = S ++ [.dct false (encM t)] ∧ t.Nodup ∧ (∀ x ∈ t, x ≤ 1000) ∧ (∀ w ∈ xs, w ∈ ws) ∧ runW d xs t = runW d (srtW ws) [] ∧ ρ = [some (.tup (ws.map eP)), some (eN d), some (.ref S.length), x3, x4, x5, x6]) (srtW ws) rfl
    ⟨[], none, none, none, none, rfl, List.nodup_nil, (fun _ z => by cases z), fun w h => (hmem w).mp h, rfl, rfl⟩ ?_ ?_
  · rintro w xs ρ S' ⟨t, x3, x4, x5, x6, rfl, tn, tl, hm, hrun, rfl⟩
    refine ⟨fun z => z, fun Q hQ => ?_⟩
    have hw := hm w List.mem_cons_self
    have e1 := ok.le w hw
    have e2 := ok.lt w hw
    have hlen := fr_len tn tl
    simp only [evSs, evS, evE, evEs, evO, evT, evI, rdP, startD, asgP, wipeD, binP_add, binP_addT, binP_addF, binP_addS, binP_sub, binP_mul, binP_rep, binP_div, binP_mod, binP_pow, binP_shl, binP_shr, binP_and, cmpP_lt, cmpP_le, cmpP_gt, cmpP_ge, cmpP_eqI, cmpP_neI, biP_lenT, biP_lenF, biP_lenS, biP_abs, biP_int, biP_tupF, biP_tupT, biP_lstF, biP_lstT, biP_all, biP_any, biP_max, biP_min, biP_max2, biP_min2, walk_tup, walk_fl, seq_tup, seq_fl, boolP_bl, isi_int, isi_bl, isi_tup, isi_fl, isi_str, isi_non, cmpP_in, cmpP_nin, ixP_tup, ixP_fl, ixP_scr, Option.some.injEq, exists_eq_left', List.map_cons, List.map_nil, List.length_cons, List.length_nil, List.cons_append, List.nil_append, List.getElem?_cons_zero, List.getElem?_cons_succ, List.set_cons_zero, List.set_cons_succ, Nat.reduceAdd, Nat.reduceSub, List.replicate_succ, List.replicate_zero, List.append_nil, if_true, Bool.not_false, Bool.not_true, Bool.false_eq_true, if_false, reduceIte, last_get, last_set, eP]
    refine ⟨S.length, _, _, last_get _ _ _, rfl, ?_⟩
    rw [last_set]
    refine ⟨_, walk_encM (last_get _ _ _), ?_⟩
    refine mapP_flt eN (inW w) eN t rfl (fun x hx Q3 hQ3 => ?_) (fun z => noSeqD (last_get _ _ _) z) (by omega) ?_
    · simp only [evSs, evS, evE, evEs, evO, evT, evI, rdP, startD, asgP, wipeD, binP_add, binP_addT, binP_addF, binP_addS, binP_sub, binP_mul, binP_rep, binP_div, binP_mod, binP_pow, binP_shl, binP_shr, binP_and, cmpP_lt, cmpP_le, cmpP_gt, cmpP_ge, cmpP_eqI, cmpP_neI, biP_lenT, biP_lenF, biP_lenS, biP_abs, biP_int, biP_tupF, biP_tupT, biP_lstF, biP_lstT, biP_all, biP_any, biP_max, biP_min, biP_max2, biP_min2, walk_tup, walk_fl, seq_tup, seq_fl, boolP_bl, isi_int, isi_bl, isi_tup, isi_fl, isi_str, isi_non, cmpP_in, cmpP_nin, ixP_tup, ixP_fl, ixP_scr, Option.some.injEq, exists_eq_left', List.map_cons, List.map_nil, List.length_cons, List.length_nil, List.cons_append, List.nil_append, List.getElem?_cons_zero, List.getElem?_cons_succ, List.set_cons_zero, List.set_cons_succ, Nat.reduceAdd, Nat.reduceSub, List.replicate_succ, List.replicate_zero, List.append_nil, if_true, Bool.not_false, Bool.not_true, Bool.false_eq_true, if_false, reduceIte, last_get, last_set, eN]
      unfold inW at hQ3
      by_cases a1 : w.1 ≤ x
      · rw [if_pos (decide_eq_true (show (w.1 : Int) ≤ (x : Int) by omega))]
        rw [decide_eq_true a1, Bool.true_and] at hQ3
        have e : decide ((x : Int) ≤ (w.2 : Int)) = decide (x ≤ w.2) := by rw [decide_eq_decide]; omega
        rw [e]
        cases hb : decide (x ≤ w.2) with
        | true => rw [hb] at hQ3; exact hQ3
        | false => rw [hb] at hQ3; exact hQ3
      · rw [if_neg (by rw [decide_eq_false (by omega)]; decide)]
        rw [decide_eq_false a1, Bool.false_and] at hQ3
        exact hQ3
    · refine ⟨last_get _ _ _, ?_⟩
      rw [last_set]
      simp only [evSs, evS, evE, evEs, evO, evT, evI, rdP, startD, asgP, wipeD, binP_add, binP_addT, binP_addF, binP_addS, binP_sub, binP_mul, binP_rep, binP_div, binP_mod, binP_pow, binP_shl, binP_shr, binP_and, cmpP_lt, cmpP_le, cmpP_gt, cmpP_ge, cmpP_eqI, cmpP_neI, biP_lenT, biP_lenF, biP_lenS, biP_abs, biP_int, biP_tupF, biP_tupT, biP_lstF, biP_lstT, biP_all, biP_any, biP_max, biP_min, biP_max2, biP_min2, walk_tup, walk_fl, seq_tup, seq_fl, boolP_bl, isi_int, isi_bl, isi_tup, isi_fl, isi_str, isi_non, cmpP_in, cmpP_nin, ixP_tup, ixP_fl, ixP_scr, Option.some.injEq, exists_eq_left', List.map_cons, List.map_nil, List.length_cons, List.length_nil, List.cons_append, List.nil_append, List.getElem?_cons_zero, List.getElem?_cons_succ, List.set_cons_zero, List.set_cons_succ, Nat.reduceAdd, Nat.reduceSub, List.replicate_succ, List.replicate_zero, List.append_nil, if_true, Bool.not_false, Bool.not_true, Bool.false_eq_true, if_false, reduceIte, last_get, last_set, eN]
      rw [List.length_map]
      have hst : runW d xs t = runW d (srtW ws) [] ∨ True := .inr trivial
      refine ⟨fun m ρ S' => ∃ (t' : List Nat) (lack mo : Int), S' = S ++ [.dct false (encM t')] ∧ t'.Nodup ∧ (∀ x ∈ t', x ≤ 1000) ∧ m ≤ w.2 + 1 - w.1 ∧ mo = ((w.1 + m : Nat) : Int) - 1 ∧ fill w.1 m lack.toNat t' = stepW d t w ∧ ρ = [some (.tup (ws.map eP)), some (eN d), some (.ref S.length), some (eN w.1), some (eN w.2), some (.int lack), some (.int mo)],
        ⟨w.2 + 1 - w.1, t, _, _, rfl, tn, tl, Nat.le_refl _, by omega, ?_, rfl⟩, ?_⟩
      · show fill _ _ ((d : Int) - ((t.filter (inW w)).length : Int)).toNat t = _
        unfold stepW cntW
        rw [show ((d : Int) - ((t.filter (inW w)).length : Int)).toNat = d - (t.filter (inW w)).length by omega]
      · rintro m ρ S' ⟨t', lack, mo, rfl, tn', tl', hm', rfl, hf, rfl⟩
        have hlen' := fr_len tn' tl'
        simp only [evSs, evS, evE, evEs, evO, evT, evI, rdP, startD, asgP, wipeD, binP_add, binP_addT, binP_addF, binP_addS, binP_sub, binP_mul, binP_rep, binP_div, binP_mod, binP_pow, binP_shl, binP_shr, binP_and, cmpP_lt, cmpP_le, cmpP_gt, cmpP_ge, cmpP_eqI, cmpP_neI, biP_lenT, biP_lenF, biP_lenS, biP_abs, biP_int, biP_tupF, biP_tupT, biP_lstF, biP_lstT, biP_all, biP_any, biP_max, biP_min, biP_max2, biP_min2, walk_tup, walk_fl, seq_tup, seq_fl, boolP_bl, isi_int, isi_bl, isi_tup, isi_fl, isi_str, isi_non, cmpP_in, cmpP_nin, ixP_tup, ixP_fl, ixP_scr, Option.some.injEq, exists_eq_left', List.map_cons, List.map_nil, List.length_cons, List.length_nil, List.cons_append, List.nil_append, List.getElem?_cons_zero, List.getElem?_cons_succ, List.set_cons_zero, List.set_cons_succ, Nat.reduceAdd, Nat.reduceSub, List.replicate_succ, List.replicate_zero, List.append_nil, if_true, Bool.not_false, Bool.not_true, Bool.false_eq_true, if_false, reduceIte, last_get, last_set, eN]
        by_cases hl : 0 < lack
        · rw [if_pos (decide_eq_true hl)]
          obtain ⟨l, hl2⟩ : ∃ l, lack.toNat = l + 1 := ⟨lack.toNat - 1, by omega⟩
          rw [hl2] at hf
          cases m with
          | zero =>
            rw [if_pos (decide_eq_true (by omega))]
            have hno : framesF ws d = none := by
              unfold framesF
              rw [← hrun]
              unfold runW
              rw [← hf]
              rfl
            rw [hno] at hR
            exact endP_drop (Nat.le_refl _) hc rfl hR
          | succ m =>
            rw [if_neg (by rw [decide_eq_false (by omega)]; decide)]
            have emo : ((w.1 + (m + 1) : Nat) : Int) - 1 = ((w.1 + m : Nat) : Int) := by omega
            rw [emo]
            unfold fill at hf
            refine inP_dct (last_get _ _ _) rfl ?_
            rw [look_encM]
            by_cases hin : w.1 + m ∈ t'
            · rw [List.contains_iff_mem.mpr hin, if_neg (by decide)]
              rw [if_pos hin] at hf
              exact ⟨m, Nat.lt_succ_self m, t', lack, _, rfl, tn', tl', by omega, rfl, by rw [hl2]; exact hf, rfl⟩
            · have hb : t'.contains (w.1 + m) = false := by rw [← Bool.not_eq_true, List.contains_iff_mem]; exact hin
              rw [hb, if_pos (by decide)]
              rw [if_neg hin] at hf
              refine putP_dct (last_get _ _ _) rfl (by rw [encM_len]; omega) ?_
              rw [last_set, put_encM hin]
              refine ⟨m, Nat.lt_succ_self m, t' ++ [w.1 + m], lack - 1, _, rfl, nodup_snoc tn' hin, fun x hx => ?_, by omega, rfl, by rw [show (lack - 1).toNat = l by omega]; exact hf, rfl⟩
              rcases List.mem_append.mp hx with z | z
              · exact tl' x z
              · rw [List.mem_singleton.mp z]; omega
        · rw [if_neg (by rw [decide_eq_false hl]; decide)]
          have hl0 : lack.toNat = 0 := by omega
          rw [hl0] at hf
          have hf : stepW d t w = some t' := by
            rw [← hf]; cases m <;> rfl
          refine hQ _ _ ⟨t', _, _, _, _, rfl, tn', tl', fun w' h' => hm w' (List.mem_cons_of_mem _ h'), ?_, rfl⟩
          rw [← hrun]
          conv => rhs; unfold runW
          rw [hf]
  · rintro ρ S' ⟨t, x3, x4, x5, x6, rfl, tn, tl, _, hrun, rfl⟩
    refine ⟨fun z => z, ?_⟩
    have hlen := fr_len tn tl
    simp only [evSs, evS, evE, evEs, evO, evT, evI, rdP, startD, asgP, wipeD, binP_add, binP_addT, binP_addF, binP_addS, binP_sub, binP_mul, binP_rep, binP_div, binP_mod, binP_pow, binP_shl, binP_shr, binP_and, cmpP_lt, cmpP_le, cmpP_gt, cmpP_ge, cmpP_eqI, cmpP_neI, biP_lenT, biP_lenF, biP_lenS, biP_abs, biP_int, biP_tupF, biP_tupT, biP_lstF, biP_lstT, biP_all, biP_any, biP_max, biP_min, biP_max2, biP_min2, walk_tup, walk_fl, seq_tup, seq_fl, boolP_bl, isi_int, isi_bl, isi_tup, isi_fl, isi_str, isi_non, cmpP_in, cmpP_nin, ixP_tup, ixP_fl, ixP_scr, Option.some.injEq, exists_eq_left', List.map_cons, List.map_nil, List.length_cons, List.length_nil, List.cons_append, List.nil_append, List.getElem?_cons_zero, List.getElem?_cons_succ, List.set_cons_zero, List.set_cons_succ, Nat.reduceAdd, Nat.reduceSub, List.replicate_succ, List.replicate_zero, List.append_nil, if_true, Bool.not_false, Bool.not_true, Bool.false_eq_true, if_false, reduceIte, last_get, last_set]
    refine sortd_N (col_encM (last_get _ _ _)) (by omega) ?_
    simp only [evSs, evS, evE, evEs, evO, evT, evI, rdP, startD, asgP, wipeD, binP_add, binP_addT, binP_addF, binP_addS, binP_sub, binP_mul, binP_rep, binP_div, binP_mod, binP_pow, binP_shl, binP_shr, binP_and, cmpP_lt, cmpP_le, cmpP_gt, cmpP_ge, cmpP_eqI, cmpP_neI, biP_lenT, biP_lenF, biP_lenS, biP_abs, biP_int, biP_tupF, biP_tupT, biP_lstF, biP_lstT, biP_all, biP_any, biP_max, biP_min, biP_max2, biP_min2, walk_tup, walk_fl, seq_tup, seq_fl, boolP_bl, isi_int, isi_bl, isi_tup, isi_fl, isi_str, isi_non, cmpP_in, cmpP_nin, ixP_tup, ixP_fl, ixP_scr, Option.some.injEq, exists_eq_left', List.map_cons, List.map_nil, List.length_cons, List.length_nil, List.cons_append, List.nil_append, List.getElem?_cons_zero, List.getElem?_cons_succ, List.set_cons_zero, List.set_cons_succ, Nat.reduceAdd, Nat.reduceSub, List.replicate_succ, List.replicate_zero, List.append_nil, if_true, Bool.not_false, Bool.not_true, Bool.false_eq_true, if_false, reduceIte, last_get, last_set]
    have e : framesF ws d = some (sortN t) := by
      unfold framesF
      rw [← hrun]
      rfl
    rw [e] at hR
    exact endP_drop (Nat.le_refl _) hc (below_eL _ _) hR
end K13

set_option Elab.async false
set_option linter.all false
set_option maxRecDepth 100000
set_option maxHeartbeats 1000000
/-! A3: windows apart. -/
namespace K13
open PySem PySem.Spec PyProof.Rows L2 DL
variable {G : Nat → Option Phi} {S : Store} {R : RE} {ds : List D}
theorem wat_get {ws : List Win} {i : Nat} (h : i < ws.length) : ws[i]? = some (wat ws i) := by
  unfold wat
  rw [List.getD_eq_getElem?_getD, List.getElem?_eq_getElem h]
  rfl
theorem runA_len (ws : List Win) : ∀ (l : List Nat) (p : List Nat × Nat), (runA ws l p).1.length ≤ p.1.length + l.length
  | [], p => Nat.le_refl _
  | i :: l, p => by
    have h1 := runA_len ws l (stepA ws p i)
    have h2 : (stepA ws p i).1.length ≤ p.1.length + 1 := by
      unfold stepA
      split
      · rw [List.length_append, List.length_singleton]; omega
      · omega
    unfold runA at *
    rw [List.foldl_cons, List.length_cons]
    omega
def p_apart : Phi := fun ds S R => ∃ ws : List Win, ds = [eWs ws] ∧ OkW ws ∧ R (eL (apartF ws)) S
theorem b_apart (h3 : G 3 = some p_check_windows) (hc : closed S) (h : p_apart ds S R) : evSs G cst f_apart (endE S R) (startD N_apart ds) S := by
  obtain ⟨ws, rfl, ok, hR⟩ := h
  have n1 := ok.n1
  have nm := ok.nm
  simp only [evSs, evS, evE, evEs, evO, evT, evI, rdP, startD, asgP, wipeD, binP_add, binP_addT, binP_addF, binP_addS, binP_sub, binP_mul, binP_rep, binP_div, binP_mod, binP_pow, binP_shl, binP_shr, binP_and, cmpP_lt, cmpP_le, cmpP_gt, cmpP_ge, cmpP_eqI, cmpP_neI, biP_lenT, biP_lenF, biP_lenS, biP_abs, biP_int, biP_tupF, biP_tupT, biP_lstF, biP_lstT, biP_all, biP_any, biP_max, biP_min, biP_max2, biP_min2, walk_tup, walk_fl, seq_tup, seq_fl, boolP_bl, isi_int, isi_bl, isi_tup, isi_fl, isi_str, isi_non, cmpP_in, cmpP_nin, ixP_tup, ixP_fl, ixP_scr, Option.some.injEq, exists_eq_left', List.map_cons, List.map_nil, List.length_cons, List.length_nil, List.cons_append, List.nil_append, List.getElem?_cons_zero, List.getElem?_cons_succ, List.set_cons_zero, List.set_cons_succ, Nat.reduceAdd, Nat.reduceSub, List.replicate_succ, List.replicate_zero, List.append_nil, if_true, Bool.not_false, Bool.not_true, Bool.false_eq_true, if_false, reduceIte, last_get, last_set, f_apart, N_apart, h3, p_check_windows]
  refine ⟨ws, rfl, ok, size_small (by decide), ?_⟩
  simp only [evSs, evS, evE, evEs, evO, evT, evI, rdP, startD, asgP, wipeD, binP_add, binP_addT, binP_addF, binP_addS, binP_sub, binP_mul, binP_rep, binP_div, binP_mod, binP_pow, binP_shl, binP_shr, binP_and, cmpP_lt, cmpP_le, cmpP_gt, cmpP_ge, cmpP_eqI, cmpP_neI, biP_lenT, biP_lenF, biP_lenS, biP_abs, biP_int, biP_tupF, biP_tupT, biP_lstF, biP_lstT, biP_all, biP_any, biP_max, biP_min, biP_max2, biP_min2, walk_tup, walk_fl, seq_tup, seq_fl, boolP_bl, isi_int, isi_bl, isi_tup, isi_fl, isi_str, isi_non, cmpP_in, cmpP_nin, ixP_tup, ixP_fl, ixP_scr, Option.some.injEq, exists_eq_left', List.map_cons, List.map_nil, List.length_cons, List.length_nil, List.cons_append, List.nil_append, List.getElem?_cons_zero, List.getElem?_cons_succ, List.set_cons_zero, List.set_cons_succ, Nat.reduceAdd, Nat.reduceSub, List.replicate_succ, List.replicate_zero, List.append_nil, if_true, Bool.not_false, Bool.not_true, Bool.false_eq_true, if_false, reduceIte, last_get, last_set, eWs]
  rw [List.length_map]
  refine ⟨by omega, fun x => .tuple [.int (((wat ws (decN x)).2 : Nat) : Int), .int ((decN x : Nat) : Int)], fun x hx => ?_, ?_⟩
  · rw [Int.toNat_natCast, rgD_zero] at hx
    obtain ⟨i, hi, rfl⟩ := List.mem_map.mp hx
    rw [List.mem_range] at hi
    simp only [evSs, evS, evE, evEs, evO, evT, evI, rdP, startD, asgP, wipeD, binP_add, binP_addT, binP_addF, binP_addS, binP_sub, binP_mul, binP_rep, binP_div, binP_mod, binP_pow, binP_shl, binP_shr, binP_and, cmpP_lt, cmpP_le, cmpP_gt, cmpP_ge, cmpP_eqI, cmpP_neI, biP_lenT, biP_lenF, biP_lenS, biP_abs, biP_int, biP_tupF, biP_tupT, biP_lstF, biP_lstT, biP_all, biP_any, biP_max, biP_min, biP_max2, biP_min2, walk_tup, walk_fl, seq_tup, seq_fl, boolP_bl, isi_int, isi_bl, isi_tup, isi_fl, isi_str, isi_non, cmpP_in, cmpP_nin, ixP_tup, ixP_fl, ixP_scr, Option.some.injEq, exists_eq_left', List.map_cons, List.map_nil, List.length_cons, List.length_nil, List.cons_append, List.nil_append, List.getElem?_cons_zero, List.getElem?_cons_succ, List.set_cons_zero, List.set_cons_succ, Nat.reduceAdd, Nat.reduceSub, List.replicate_succ, List.replicate_zero, List.append_nil, if_true, Bool.not_false, Bool.not_true, Bool.false_eq_true, if_false, reduceIte, last_get, last_set, eN]
    change ixP _ (.tup (ws.map eP)) (.int (i : Nat)) _
    simp only [evSs, evS, evE, evEs, evO, evT, evI, rdP, startD, asgP, wipeD, binP_add, binP_addT, binP_addF, binP_addS, binP_sub, binP_mul, binP_rep, binP_div, binP_mod, binP_pow, binP_shl, binP_shr, binP_and, cmpP_lt, cmpP_le, cmpP_gt, cmpP_ge, cmpP_eqI, cmpP_neI, biP_lenT, biP_lenF, biP_lenS, biP_abs, biP_int, biP_tupF, biP_tupT, biP_lstF, biP_lstT, biP_all, biP_any, biP_max, biP_min, biP_max2, biP_min2, walk_tup, walk_fl, seq_tup, seq_fl, boolP_bl, isi_int, isi_bl, isi_tup, isi_fl, isi_str, isi_non, cmpP_in, cmpP_nin, ixP_tup, ixP_fl, ixP_scr, Option.some.injEq, exists_eq_left', List.map_cons, List.map_nil, List.length_cons, List.length_nil, List.cons_append, List.nil_append, List.getElem?_cons_zero, List.getElem?_cons_succ, List.set_cons_zero, List.set_cons_succ, Nat.reduceAdd, Nat.reduceSub, List.replicate_succ, List.replicate_zero, List.append_nil, if_true, Bool.not_false, Bool.not_true, Bool.false_eq_true, if_false, reduceIte, last_get, last_set]
    refine ⟨_, atM (wat_get hi), ?_⟩
    simp only [evSs, evS, evE, evEs, evO, evT, evI, rdP, startD, asgP, wipeD, binP_add, binP_addT, binP_addF, binP_addS, binP_sub, binP_mul, binP_rep, binP_div, binP_mod, binP_pow, binP_shl, binP_shr, binP_and, cmpP_lt, cmpP_le, cmpP_gt, cmpP_ge, cmpP_eqI, cmpP_neI, biP_lenT, biP_lenF, biP_lenS, biP_abs, biP_int, biP_tupF, biP_tupT, biP_lstF, biP_lstT, biP_all, biP_any, biP_max, biP_min, biP_max2, biP_min2, walk_tup, walk_fl, seq_tup, seq_fl, boolP_bl, isi_int, isi_bl, isi_tup, isi_fl, isi_str, isi_non, cmpP_in, cmpP_nin, ixP_tup, ixP_fl, ixP_scr, Option.some.injEq, exists_eq_left', List.map_cons, List.map_nil, List.length_cons, List.length_nil, List.cons_append, List.nil_append, List.getElem?_cons_zero, List.getElem?_cons_succ, List.set_cons_zero, List.set_cons_succ, Nat.reduceAdd, Nat.reduceSub, List.replicate_succ, List.replicate_zero, List.append_nil, if_true, Bool.not_false, Bool.not_true, Bool.false_eq_true, if_false, reduceIte, last_get, last_set, eP]
    refine ⟨_, at1, size_small (by decide), trivial, rfl⟩
  rw [Int.toNat_natCast, rgD_zero]
  refine srtP_ii eN decN decN_eN (fun i => (((wat ws i).2 : Nat) : Int)) (fun i => ((i : Nat) : Int)) (size_small (by rw [List.length_range]; omega)) ?_
  simp only [evSs, evS, evE, evEs, evO, evT, evI, rdP, startD, asgP, wipeD, binP_add, binP_addT, binP_addF, binP_addS, binP_sub, binP_mul, binP_rep, binP_div, binP_mod, binP_pow, binP_shl, binP_shr, binP_and, cmpP_lt, cmpP_le, cmpP_gt, cmpP_ge, cmpP_eqI, cmpP_neI, biP_lenT, biP_lenF, biP_lenS, biP_abs, biP_int, biP_tupF, biP_tupT, biP_lstF, biP_lstT, biP_all, biP_any, biP_max, biP_min, biP_max2, biP_min2, walk_tup, walk_fl, seq_tup, seq_fl, boolP_bl, isi_int, isi_bl, isi_tup, isi_fl, isi_str, isi_non, cmpP_in, cmpP_nin, ixP_tup, ixP_fl, ixP_scr, Option.some.injEq, exists_eq_left', List.map_cons, List.map_nil, List.length_cons, List.length_nil, List.cons_append, List.nil_append, List.getElem?_cons_zero, List.getElem?_cons_succ, List.set_cons_zero, List.set_cons_succ, Nat.reduceAdd, Nat.reduceSub, List.replicate_succ, List.replicate_zero, List.append_nil, if_true, Bool.not_false, Bool.not_true, Bool.false_eq_true, if_false, reduceIte, last_get, last_set]
  have hmem : ∀ i, i ∈ srtA ws ↔ i < ws.length := fun i => by rw [(srtA_perm ws).mem_iff, List.mem_range]
  refine forP_of eN (fun xs ρ S' => ∃ p : List Nat × Nat, ∃ x3 : Option D, S' = S ++ [.lst (p.1.map eN)] ∧ (∀ i ∈ xs, i < ws.length) ∧ p.1.length + xs.length ≤ 40 ∧ runA ws xs p = runA ws (srtA ws) ([], 0) ∧ ρ = [some (.tup (ws.map eP)), some (.ref S.length), some (.int ((p.2 : Int) - 1)), x3]) (srtA ws) rfl
    ⟨([], 0), none, rfl, fun i h => (hmem i).mp h, by rw [(srtA_perm ws).length_eq, List.length_range]; simpa using nm, rfl, rfl⟩ ?_ ?_
  · rintro i xs ρ S' ⟨p, x3, rfl, hm, hlen, hrun, rfl⟩
    refine ⟨fun z => z, fun Q hQ => ?_⟩
    have hi := hm i List.mem_cons_self
    rw [List.length_cons] at hlen
    have hrun2 : runA ws xs (stepA ws p i) = runA ws (srtA ws) ([], 0) := hrun
    unfold stepA at hrun2
    simp only [evSs, evS, evE, evEs, evO, evT, evI, rdP, startD, asgP, wipeD, binP_add, binP_addT, binP_addF, binP_addS, binP_sub, binP_mul, binP_rep, binP_div, binP_mod, binP_pow, binP_shl, binP_shr, binP_and, cmpP_lt, cmpP_le, cmpP_gt, cmpP_ge, cmpP_eqI, cmpP_neI, biP_lenT, biP_lenF, biP_lenS, biP_abs, biP_int, biP_tupF, biP_tupT, biP_lstF, biP_lstT, biP_all, biP_any, biP_max, biP_min, biP_max2, biP_min2, walk_tup, walk_fl, seq_tup, seq_fl, boolP_bl, isi_int, isi_bl, isi_tup, isi_fl, isi_str, isi_non, cmpP_in, cmpP_nin, ixP_tup, ixP_fl, ixP_scr, Option.some.injEq, exists_eq_left', List.map_cons, List.map_nil, List.length_cons, List.length_nil, List.cons_append, List.nil_append, List.getElem?_cons_zero, List.getElem?_cons_succ, List.set_cons_zero, List.set_cons_succ, Nat.reduceAdd, Nat.reduceSub, List.replicate_succ, List.replicate_zero, List.append_nil, if_true, Bool.not_false, Bool.not_true, Bool.false_eq_true, if_false, reduceIte, last_get, last_set, eN]
    refine ⟨_, atM (wat_get hi), ?_⟩
    simp only [evSs, evS, evE, evEs, evO, evT, evI, rdP, startD, asgP, wipeD, binP_add, binP_addT, binP_addF, binP_addS, binP_sub, binP_mul, binP_rep, binP_div, binP_mod, binP_pow, binP_shl, binP_shr, binP_and, cmpP_lt, cmpP_le, cmpP_gt, cmpP_ge, cmpP_eqI, cmpP_neI, biP_lenT, biP_lenF, biP_lenS, biP_abs, biP_int, biP_tupF, biP_tupT, biP_lstF, biP_lstT, biP_all, biP_any, biP_max, biP_min, biP_max2, biP_min2, walk_tup, walk_fl, seq_tup, seq_fl, boolP_bl, isi_int, isi_bl, isi_tup, isi_fl, isi_str, isi_non, cmpP_in, cmpP_nin, ixP_tup, ixP_fl, ixP_scr, Option.some.injEq, exists_eq_left', List.map_cons, List.map_nil, List.length_cons, List.length_nil, List.cons_append, List.nil_append, List.getElem?_cons_zero, List.getElem?_cons_succ, List.set_cons_zero, List.set_cons_succ, Nat.reduceAdd, Nat.reduceSub, List.replicate_succ, List.replicate_zero, List.append_nil, if_true, Bool.not_false, Bool.not_true, Bool.false_eq_true, if_false, reduceIte, last_get, last_set, eP]
    refine ⟨_, at0, ?_⟩
    simp only [evSs, evS, evE, evEs, evO, evT, evI, rdP, startD, asgP, wipeD, binP_add, binP_addT, binP_addF, binP_addS, binP_sub, binP_mul, binP_rep, binP_div, binP_mod, binP_pow, binP_shl, binP_shr, binP_and, cmpP_lt, cmpP_le, cmpP_gt, cmpP_ge, cmpP_eqI, cmpP_neI, biP_lenT, biP_lenF, biP_lenS, biP_abs, biP_int, biP_tupF, biP_tupT, biP_lstF, biP_lstT, biP_all, biP_any, biP_max, biP_min, biP_max2, biP_min2, walk_tup, walk_fl, seq_tup, seq_fl, boolP_bl, isi_int, isi_bl, isi_tup, isi_fl, isi_str, isi_non, cmpP_in, cmpP_nin, ixP_tup, ixP_fl, ixP_scr, Option.some.injEq, exists_eq_left', List.map_cons, List.map_nil, List.length_cons, List.length_nil, List.cons_append, List.nil_append, List.getElem?_cons_zero, List.getElem?_cons_succ, List.set_cons_zero, List.set_cons_succ, Nat.reduceAdd, Nat.reduceSub, List.replicate_succ, List.replicate_zero, List.append_nil, if_true, Bool.not_false, Bool.not_true, Bool.false_eq_true, if_false, reduceIte, last_get, last_set, eN]
    by_cases hlt : p.2 ≤ (wat ws i).1
    · rw [if_pos (decide_eq_true (by omega))]
      rw [if_pos hlt] at hrun2
      refine ⟨_, _, rfl, last_get _ _ _, _, last_get _ _ _, size_lt (by rw [List.length_map]; omega), ?_⟩
      rw [last_set]
      refine ⟨_, atM (wat_get hi), ?_⟩
      simp only [evSs, evS, evE, evEs, evO, evT, evI, rdP, startD, asgP, wipeD, binP_add, binP_addT, binP_addF, binP_addS, binP_sub, binP_mul, binP_rep, binP_div, binP_mod, binP_pow, binP_shl, binP_shr, binP_and, cmpP_lt, cmpP_le, cmpP_gt, cmpP_ge, cmpP_eqI, cmpP_neI, biP_lenT, biP_lenF, biP_lenS, biP_abs, biP_int, biP_tupF, biP_tupT, biP_lstF, biP_lstT, biP_all, biP_any, biP_max, biP_min, biP_max2, biP_min2, walk_tup, walk_fl, seq_tup, seq_fl, boolP_bl, isi_int, isi_bl, isi_tup, isi_fl, isi_str, isi_non, cmpP_in, cmpP_nin, ixP_tup, ixP_fl, ixP_scr, Option.some.injEq, exists_eq_left', List.map_cons, List.map_nil, List.length_cons, List.length_nil, List.cons_append, List.nil_append, List.getElem?_cons_zero, List.getElem?_cons_succ, List.set_cons_zero, List.set_cons_succ, Nat.reduceAdd, Nat.reduceSub, List.replicate_succ, List.replicate_zero, List.append_nil, if_true, Bool.not_false, Bool.not_true, Bool.false_eq_true, if_false, reduceIte, last_get, last_set, eP]
      refine ⟨_, at1, ?_⟩
      have e : p.1.map eN ++ [D.int i] = (p.1 ++ [i]).map eN := by rw [List.map_append]; rfl
      rw [e]
      refine hQ _ _ ⟨(p.1 ++ [i], (wat ws i).2 + 1), some (D.int ((i : Nat) : Int)), rfl, fun i' h' => hm i' (List.mem_cons_of_mem _ h'), by rw [List.length_append, List.length_singleton]; omega, hrun2, ?_⟩
      have : (((wat ws i).2 + 1 : Nat) : Int) - 1 = ((wat ws i).2 : Int) := by omega
      show _ = [some (D.tup (List.map eP ws)), some (D.ref (List.length S)), some (D.int ((((wat ws i).2 + 1 : Nat) : Int) - 1)), some (D.int (i : Nat))]
      rw [this]
      rfl
    · rw [if_neg (by rw [decide_eq_false (by omega)]; decide)]
      rw [if_neg hlt] at hrun2
      exact hQ _ _ ⟨p, _, rfl, fun i' h' => hm i' (List.mem_cons_of_mem _ h'), by omega, hrun2, rfl⟩
  · rintro ρ S' ⟨p, x3, rfl, _, hlen, hrun, rfl⟩
    refine ⟨fun z => z, ?_⟩
    simp only [evSs, evS, evE, evEs, evO, evT, evI, rdP, startD, asgP, wipeD, binP_add, binP_addT, binP_addF, binP_addS, binP_sub, binP_mul, binP_rep, binP_div, binP_mod, binP_pow, binP_shl, binP_shr, binP_and, cmpP_lt, cmpP_le, cmpP_gt, cmpP_ge, cmpP_eqI, cmpP_neI, biP_lenT, biP_lenF, biP_lenS, biP_abs, biP_int, biP_tupF, biP_tupT, biP_lstF, biP_lstT, biP_all, biP_any, biP_max, biP_min, biP_max2, biP_min2, walk_tup, walk_fl, seq_tup, seq_fl, boolP_bl, isi_int, isi_bl, isi_tup, isi_fl, isi_str, isi_non, cmpP_in, cmpP_nin, ixP_tup, ixP_fl, ixP_scr, Option.some.injEq, exists_eq_left', List.map_cons, List.map_nil, List.length_cons, List.length_nil, List.cons_append, List.nil_append, List.getElem?_cons_zero, List.getElem?_cons_succ, List.set_cons_zero, List.set_cons_succ, Nat.reduceAdd, Nat.reduceSub, List.replicate_succ, List.replicate_zero, List.append_nil, if_true, Bool.not_false, Bool.not_true, Bool.false_eq_true, if_false, reduceIte, last_get, last_set]
    refine biP_sortR (last_get _ _ _) ?_
    simp only [evSs, evS, evE, evEs, evO, evT, evI, rdP, startD, asgP, wipeD, binP_add, binP_addT, binP_addF, binP_addS, binP_sub, binP_mul, binP_rep, binP_div, binP_mod, binP_pow, binP_shl, binP_shr, binP_and, cmpP_lt, cmpP_le, cmpP_gt, cmpP_ge, cmpP_eqI, cmpP_neI, biP_lenT, biP_lenF, biP_lenS, biP_abs, biP_int, biP_tupF, biP_tupT, biP_lstF, biP_lstT, biP_all, biP_any, biP_max, biP_min, biP_max2, biP_min2, walk_tup, walk_fl, seq_tup, seq_fl, boolP_bl, isi_int, isi_bl, isi_tup, isi_fl, isi_str, isi_non, cmpP_in, cmpP_nin, ixP_tup, ixP_fl, ixP_scr, Option.some.injEq, exists_eq_left', List.map_cons, List.map_nil, List.length_cons, List.length_nil, List.cons_append, List.nil_append, List.getElem?_cons_zero, List.getElem?_cons_succ, List.set_cons_zero, List.set_cons_succ, Nat.reduceAdd, Nat.reduceSub, List.replicate_succ, List.replicate_zero, List.append_nil, if_true, Bool.not_false, Bool.not_true, Bool.false_eq_true, if_false, reduceIte, last_get, last_set]
    have e : p = runA ws (srtA ws) ([], 0) := hrun
    have e2 : sortN p.1 = apartF ws := by rw [e]; rfl
    rw [e2]
    exact endP_drop (Nat.le_refl _) hc (below_eL _ _) hR
end K13

set_option Elab.async false
set_option linter.all false
set_option maxRecDepth 100000
set_option maxHeartbeats 1000000
/-! A4: blinks. -/
namespace K13
open PySem PySem.Spec PyProof.Rows L2 DL
variable {G : Nat → Option Phi} {S : Store} {R : RE} {ds : List D}
def p_check_blinks : Phi := fun ds S R => ∃ b : Bl, ds = [eWs b] ∧ OkB b ∧ R .non S
theorem b_check_blinks (h1 : G 1 = some p_is_below) (h2 : G 2 = some p_is_between) (hc : closed S) (h : p_check_blinks ds S R) : evSs G cst f_check_blinks (endE S R) (startD N_check_blinks ds) S := by
  obtain ⟨b, rfl, ok, hR⟩ := h
  have n1 := ok.n1
  have nm := ok.nm
  simp only [evSs, evS, evE, evEs, evO, evT, evI, rdP, startD, asgP, wipeD, binP_add, binP_addT, binP_addF, binP_addS, binP_sub, binP_mul, binP_rep, binP_div, binP_mod, binP_pow, binP_shl, binP_shr, binP_and, cmpP_lt, cmpP_le, cmpP_gt, cmpP_ge, cmpP_eqI, cmpP_neI, biP_lenT, biP_lenF, biP_lenS, biP_abs, biP_int, biP_tupF, biP_tupT, biP_lstF, biP_lstT, biP_all, biP_any, biP_max, biP_min, biP_max2, biP_min2, walk_tup, walk_fl, seq_tup, seq_fl, boolP_bl, isi_int, isi_bl, isi_tup, isi_fl, isi_str, isi_non, cmpP_in, cmpP_nin, ixP_tup, ixP_fl, ixP_scr, Option.some.injEq, exists_eq_left', List.map_cons, List.map_nil, List.length_cons, List.length_nil, List.cons_append, List.nil_append, List.getElem?_cons_zero, List.getElem?_cons_succ, List.set_cons_zero, List.set_cons_succ, Nat.reduceAdd, Nat.reduceSub, List.replicate_succ, List.replicate_zero, List.append_nil, if_true, Bool.not_false, Bool.not_true, Bool.false_eq_true, if_false, reduceIte, last_get, last_set, f_check_blinks, N_check_blinks, h1, h2, p_is_between, p_is_below, eWs, cst]
  rw [List.length_map, if_pos (decide_eq_true (by omega)), if_neg (by rw [decide_eq_true (by omega)]; decide)]
  refine forP_of eP (fun xs ρ S' => S' = S ∧ (∀ w ∈ xs, w ∈ b) ∧ ∃ x1 x2, ρ = [some (.tup (b.map eP)), x1, x2]) b rfl ⟨rfl, fun w h => h, none, none, rfl⟩ ?_ ?_
  · rintro w xs ρ S' ⟨rfl, hm, x1, x2, rfl⟩
    refine ⟨fun z => z, fun Q hQ => ?_⟩
    have hw := hm w List.mem_cons_self
    have e1 := ok.lt w hw
    have e2 := ok.m2 w hw
    simp only [evSs, evS, evE, evEs, evO, evT, evI, rdP, startD, asgP, wipeD, binP_add, binP_addT, binP_addF, binP_addS, binP_sub, binP_mul, binP_rep, binP_div, binP_mod, binP_pow, binP_shl, binP_shr, binP_and, cmpP_lt, cmpP_le, cmpP_gt, cmpP_ge, cmpP_eqI, cmpP_neI, biP_lenT, biP_lenF, biP_lenS, biP_abs, biP_int, biP_tupF, biP_tupT, biP_lstF, biP_lstT, biP_all, biP_any, biP_max, biP_min, biP_max2, biP_min2, walk_tup, walk_fl, seq_tup, seq_fl, boolP_bl, isi_int, isi_bl, isi_tup, isi_fl, isi_str, isi_non, cmpP_in, cmpP_nin, ixP_tup, ixP_fl, ixP_scr, Option.some.injEq, exists_eq_left', List.map_cons, List.map_nil, List.length_cons, List.length_nil, List.cons_append, List.nil_append, List.getElem?_cons_zero, List.getElem?_cons_succ, List.set_cons_zero, List.set_cons_succ, Nat.reduceAdd, Nat.reduceSub, List.replicate_succ, List.replicate_zero, List.append_nil, if_true, Bool.not_false, Bool.not_true, Bool.false_eq_true, if_false, reduceIte, last_get, last_set, eP]
    rw [if_neg (by decide)]
    refine ⟨_, at0, ?_⟩
    simp only [evSs, evS, evE, evEs, evO, evT, evI, rdP, startD, asgP, wipeD, binP_add, binP_addT, binP_addF, binP_addS, binP_sub, binP_mul, binP_rep, binP_div, binP_mod, binP_pow, binP_shl, binP_shr, binP_and, cmpP_lt, cmpP_le, cmpP_gt, cmpP_ge, cmpP_eqI, cmpP_neI, biP_lenT, biP_lenF, biP_lenS, biP_abs, biP_int, biP_tupF, biP_tupT, biP_lstF, biP_lstT, biP_all, biP_any, biP_max, biP_min, biP_max2, biP_min2, walk_tup, walk_fl, seq_tup, seq_fl, boolP_bl, isi_int, isi_bl, isi_tup, isi_fl, isi_str, isi_non, cmpP_in, cmpP_nin, ixP_tup, ixP_fl, ixP_scr, Option.some.injEq, exists_eq_left', List.map_cons, List.map_nil, List.length_cons, List.length_nil, List.cons_append, List.nil_append, List.getElem?_cons_zero, List.getElem?_cons_succ, List.set_cons_zero, List.set_cons_succ, Nat.reduceAdd, Nat.reduceSub, List.replicate_succ, List.replicate_zero, List.append_nil, if_true, Bool.not_false, Bool.not_true, Bool.false_eq_true, if_false, reduceIte, last_get, last_set, eN]
    rw [if_neg (by rw [decide_eq_true (show (0 : Int) ≤ (w.1 : Int) by omega), decide_eq_true (show (w.1 : Int) ≤ 10000 by omega)]; decide)]
    refine ⟨_, at1, ?_⟩
    simp only [evSs, evS, evE, evEs, evO, evT, evI, rdP, startD, asgP, wipeD, binP_add, binP_addT, binP_addF, binP_addS, binP_sub, binP_mul, binP_rep, binP_div, binP_mod, binP_pow, binP_shl, binP_shr, binP_and, cmpP_lt, cmpP_le, cmpP_gt, cmpP_ge, cmpP_eqI, cmpP_neI, biP_lenT, biP_lenF, biP_lenS, biP_abs, biP_int, biP_tupF, biP_tupT, biP_lstF, biP_lstT, biP_all, biP_any, biP_max, biP_min, biP_max2, biP_min2, walk_tup, walk_fl, seq_tup, seq_fl, boolP_bl, isi_int, isi_bl, isi_tup, isi_fl, isi_str, isi_non, cmpP_in, cmpP_nin, ixP_tup, ixP_fl, ixP_scr, Option.some.injEq, exists_eq_left', List.map_cons, List.map_nil, List.length_cons, List.length_nil, List.cons_append, List.nil_append, List.getElem?_cons_zero, List.getElem?_cons_succ, List.set_cons_zero, List.set_cons_succ, Nat.reduceAdd, Nat.reduceSub, List.replicate_succ, List.replicate_zero, List.append_nil, if_true, Bool.not_false, Bool.not_true, Bool.false_eq_true, if_false, reduceIte, last_get, last_set, eN]
    rw [if_neg (by rw [decide_eq_true (show (0 : Int) ≤ (w.2 : Int) by omega), decide_eq_true (show (w.2 : Int) < 2 by omega)]; decide)]
    exact hQ _ _ ⟨rfl, fun w' h' => hm w' (List.mem_cons_of_mem _ h'), _, _, rfl⟩
  · rintro ρ S' ⟨rfl, _, x1, x2, rfl⟩
    refine ⟨fun z => z, ?_⟩
    simp only [evSs, evS, evE, evEs, evO, evT, evI, rdP, startD, asgP, wipeD, binP_add, binP_addT, binP_addF, binP_addS, binP_sub, binP_mul, binP_rep, binP_div, binP_mod, binP_pow, binP_shl, binP_shr, binP_and, cmpP_lt, cmpP_le, cmpP_gt, cmpP_ge, cmpP_eqI, cmpP_neI, biP_lenT, biP_lenF, biP_lenS, biP_abs, biP_int, biP_tupF, biP_tupT, biP_lstF, biP_lstT, biP_all, biP_any, biP_max, biP_min, biP_max2, biP_min2, walk_tup, walk_fl, seq_tup, seq_fl, boolP_bl, isi_int, isi_bl, isi_tup, isi_fl, isi_str, isi_non, cmpP_in, cmpP_nin, ixP_tup, ixP_fl, ixP_scr, Option.some.injEq, exists_eq_left', List.map_cons, List.map_nil, List.length_cons, List.length_nil, List.cons_append, List.nil_append, List.getElem?_cons_zero, List.getElem?_cons_succ, List.set_cons_zero, List.set_cons_succ, Nat.reduceAdd, Nat.reduceSub, List.replicate_succ, List.replicate_zero, List.append_nil, if_true, Bool.not_false, Bool.not_true, Bool.false_eq_true, if_false, reduceIte, last_get, last_set]
    rw [List.length_map]
    refine ⟨⟨by omega, by omega, by omega, by omega⟩, ?_⟩
    refine mapP_all (fun i : Nat => D.int (1 + (i : Nat))) (fun _ => .bl true) (List.range ((b.length : Int) - 1).toNat) rfl (fun i hx Q hQ => ?_) trivial (by rw [List.length_range]; omega) ?_
    · rw [List.mem_range] at hx
      have g1 : b[i]? = some b[i] := List.getElem?_eq_getElem (by omega)
      have g2 : b[i + 1]? = some b[i + 1] := List.getElem?_eq_getElem (by omega)
      simp only [evSs, evS, evE, evEs, evO, evT, evI, rdP, startD, asgP, wipeD, binP_add, binP_addT, binP_addF, binP_addS, binP_sub, binP_mul, binP_rep, binP_div, binP_mod, binP_pow, binP_shl, binP_shr, binP_and, cmpP_lt, cmpP_le, cmpP_gt, cmpP_ge, cmpP_eqI, cmpP_neI, biP_lenT, biP_lenF, biP_lenS, biP_abs, biP_int, biP_tupF, biP_tupT, biP_lstF, biP_lstT, biP_all, biP_any, biP_max, biP_min, biP_max2, biP_min2, walk_tup, walk_fl, seq_tup, seq_fl, boolP_bl, isi_int, isi_bl, isi_tup, isi_fl, isi_str, isi_non, cmpP_in, cmpP_nin, ixP_tup, ixP_fl, ixP_scr, Option.some.injEq, exists_eq_left', List.map_cons, List.map_nil, List.length_cons, List.length_nil, List.cons_append, List.nil_append, List.getElem?_cons_zero, List.getElem?_cons_succ, List.set_cons_zero, List.set_cons_succ, Nat.reduceAdd, Nat.reduceSub, List.replicate_succ, List.replicate_zero, List.append_nil, if_true, Bool.not_false, Bool.not_true, Bool.false_eq_true, if_false, reduceIte, last_get, last_set]
      rw [show (1 : Int) + (i : Nat) - 1 = ((i : Nat) : Int) by omega, show (1 : Int) + (i : Nat) = ((i + 1 : Nat) : Int) by omega]
      refine ⟨_, atM g1, ?_⟩
      simp only [evSs, evS, evE, evEs, evO, evT, evI, rdP, startD, asgP, wipeD, binP_add, binP_addT, binP_addF, binP_addS, binP_sub, binP_mul, binP_rep, binP_div, binP_mod, binP_pow, binP_shl, binP_shr, binP_and, cmpP_lt, cmpP_le, cmpP_gt, cmpP_ge, cmpP_eqI, cmpP_neI, biP_lenT, biP_lenF, biP_lenS, biP_abs, biP_int, biP_tupF, biP_tupT, biP_lstF, biP_lstT, biP_all, biP_any, biP_max, biP_min, biP_max2, biP_min2, walk_tup, walk_fl, seq_tup, seq_fl, boolP_bl, isi_int, isi_bl, isi_tup, isi_fl, isi_str, isi_non, cmpP_in, cmpP_nin, ixP_tup, ixP_fl, ixP_scr, Option.some.injEq, exists_eq_left', List.map_cons, List.map_nil, List.length_cons, List.length_nil, List.cons_append, List.nil_append, List.getElem?_cons_zero, List.getElem?_cons_succ, List.set_cons_zero, List.set_cons_succ, Nat.reduceAdd, Nat.reduceSub, List.replicate_succ, List.replicate_zero, List.append_nil, if_true, Bool.not_false, Bool.not_true, Bool.false_eq_true, if_false, reduceIte, last_get, last_set, eP]
      refine ⟨_, at0, _, atM g2, ?_⟩
      simp only [evSs, evS, evE, evEs, evO, evT, evI, rdP, startD, asgP, wipeD, binP_add, binP_addT, binP_addF, binP_addS, binP_sub, binP_mul, binP_rep, binP_div, binP_mod, binP_pow, binP_shl, binP_shr, binP_and, cmpP_lt, cmpP_le, cmpP_gt, cmpP_ge, cmpP_eqI, cmpP_neI, biP_lenT, biP_lenF, biP_lenS, biP_abs, biP_int, biP_tupF, biP_tupT, biP_lstF, biP_lstT, biP_all, biP_any, biP_max, biP_min, biP_max2, biP_min2, walk_tup, walk_fl, seq_tup, seq_fl, boolP_bl, isi_int, isi_bl, isi_tup, isi_fl, isi_str, isi_non, cmpP_in, cmpP_nin, ixP_tup, ixP_fl, ixP_scr, Option.some.injEq, exists_eq_left', List.map_cons, List.map_nil, List.length_cons, List.length_nil, List.cons_append, List.nil_append, List.getElem?_cons_zero, List.getElem?_cons_succ, List.set_cons_zero, List.set_cons_succ, Nat.reduceAdd, Nat.reduceSub, List.replicate_succ, List.replicate_zero, List.append_nil, if_true, Bool.not_false, Bool.not_true, Bool.false_eq_true, if_false, reduceIte, last_get, last_set, eP]
      refine ⟨_, at0, ?_⟩
      show Q (some (.bl (decide ((b[i].1 : Int) < (b[i + 1].1 : Int))))) S'
      have := List.pairwise_iff_getElem.mp ok.inc i (i + 1) (by omega) (by omega) (by omega)
      rw [decide_eq_true (by omega)]
      exact hQ
    · refine ⟨_, bls_map (f := fun _ => true) (fun _ => rfl) _, ?_⟩
      rw [all_true, if_neg (by decide)]
      exact endP_same (Nat.le_refl _) hc rfl hR
structure Kvs (b : Bl) (p : Nat) (kvs : List (Key × D)) : Prop where
  look : ∀ r : Nat, lookD kvs (Sum.inl ((r : Nat) : Int)) = (resAt b p r).map eN
  nums : ∀ kv ∈ kvs, ∃ x, kv.2 = eN x
theorem Kvs.below {b : Bl} {p : Nat} {kvs : List (Key × D)} (h : Kvs b p kvs) (n : Nat) (l : Bool) : (Ob.dct l kvs).below n = true := by
  show belows n (kvs.map (·.2)) = true
  have : ∀ ds : List D, (∀ d ∈ ds, ∃ x, d = eN x) → belows n ds = true := fun ds => by
    induction ds with
    | nil => intro _; rfl
    | cons d ds ih =>
      intro hd
      obtain ⟨x, e⟩ := hd d List.mem_cons_self
      simp only [belows, ih fun x hx => hd x (List.mem_cons_of_mem _ hx), e, eN, DL.below, Bool.and_self]
  refine this _ fun d hd => ?_
  obtain ⟨kv, h1, rfl⟩ := List.mem_map.mp hd
  exact h.nums kv h1
def p_marks_of : Phi := fun ds S R => ∃ (b : Bl) (p : Nat), ds = [eWs b, eN p] ∧ b.length ≤ 1000 ∧ 1 ≤ p ∧ (fitB b p = false → R .non S) ∧ (fitB b p = true → ∀ kvs, Kvs b p kvs → R (.ref S.length) (S ++ [.dct false kvs]))
theorem fit_snoc {c : Bl} {p : Nat} {x : Nat × Nat} (h : fitB c p = true) (hx : resAt c p (x.1 % p) = some x.2 ∨ resAt c p (x.1 % p) = none) : fitB (c ++ [x]) p = true := by
  unfold fitB at *
  rw [List.all_eq_true] at *
  intro y hy
  rw [decide_eq_true_eq, resAt_app]
  rcases List.mem_append.mp hy with z | z
  · rw [of_decide_eq_true (h y z)]; rfl
  · rw [List.mem_singleton.mp z]
    have e : resAt [x] p (x.1 % p) = some x.2 := by
      unfold resAt
      rw [List.find?_cons, beq_iff_eq.mpr rfl]; rfl
    rcases hx with z | z
    · rw [z]; rfl
    · rw [z, e]; rfl
theorem b_marks_of (hc : closed S) (h : p_marks_of ds S R) : evSs G cst f_marks_of (endE S R) (startD N_marks_of ds) S := by
  obtain ⟨b, p, rfl, nm, hp, hno, hyes⟩ := h
  simp only [evSs, evS, evE, evEs, evO, evT, evI, rdP, startD, asgP, wipeD, binP_add, binP_addT, binP_addF, binP_addS, binP_sub, binP_mul, binP_rep, binP_div, binP_mod, binP_pow, binP_shl, binP_shr, binP_and, cmpP_lt, cmpP_le, cmpP_gt, cmpP_ge, cmpP_eqI, cmpP_neI, biP_lenT, biP_lenF, biP_lenS, biP_abs, biP_int, biP_tupF, biP_tupT, biP_lstF, biP_lstT, biP_all, biP_any, biP_max, biP_min, biP_max2, biP_min2, walk_tup, walk_fl, seq_tup, seq_fl, boolP_bl, isi_int, isi_bl, isi_tup, isi_fl, isi_str, isi_non, cmpP_in, cmpP_nin, ixP_tup, ixP_fl, ixP_scr, Option.some.injEq, exists_eq_left', List.map_cons, List.map_nil, List.length_cons, List.length_nil, List.cons_append, List.nil_append, List.getElem?_cons_zero, List.getElem?_cons_succ, List.set_cons_zero, List.set_cons_succ, Nat.reduceAdd, Nat.reduceSub, List.replicate_succ, List.replicate_zero, List.append_nil, if_true, Bool.not_false, Bool.not_true, Bool.false_eq_true, if_false, reduceIte, last_get, last_set, f_marks_of, N_marks_of, eWs]
  refine forP_of eP (fun xs ρ S' => ∃ (c : Bl) (kvs : List (Key × D)) (x3 x4 : Option D), c ++ xs = b ∧ fitB c p = true ∧ Kvs c p kvs ∧ kvs.length ≤ c.length ∧ S' = S ++ [.dct false kvs] ∧ ρ = [some (.tup (b.map eP)), some (eN p), some (.ref S.length), x3, x4]) b rfl
    ⟨[], [], none, none, rfl, rfl, ⟨fun _ => rfl, fun _ z => by cases z⟩, Nat.le_refl _, rfl, rfl⟩ ?_ ?_
  · rintro x xs ρ S' ⟨c, kvs, x3, x4, hb, hf, hk, hlen, rfl, rfl⟩
    refine ⟨fun z => z, fun Q hQ => ?_⟩
    have hcl : c.length ≤ 1000 := by rw [← hb, List.length_append] at nm; omega
    simp only [evSs, evS, evE, evEs, evO, evT, evI, rdP, startD, asgP, wipeD, binP_add, binP_addT, binP_addF, binP_addS, binP_sub, binP_mul, binP_rep, binP_div, binP_mod, binP_pow, binP_shl, binP_shr, binP_and, cmpP_lt, cmpP_le, cmpP_gt, cmpP_ge, cmpP_eqI, cmpP_neI, biP_lenT, biP_lenF, biP_lenS, biP_abs, biP_int, biP_tupF, biP_tupT, biP_lstF, biP_lstT, biP_all, biP_any, biP_max, biP_min, biP_max2, biP_min2, walk_tup, walk_fl, seq_tup, seq_fl, boolP_bl, isi_int, isi_bl, isi_tup, isi_fl, isi_str, isi_non, cmpP_in, cmpP_nin, ixP_tup, ixP_fl, ixP_scr, Option.some.injEq, exists_eq_left', List.map_cons, List.map_nil, List.length_cons, List.length_nil, List.cons_append, List.nil_append, List.getElem?_cons_zero, List.getElem?_cons_succ, List.set_cons_zero, List.set_cons_succ, Nat.reduceAdd, Nat.reduceSub, List.replicate_succ, List.replicate_zero, List.append_nil, if_true, Bool.not_false, Bool.not_true, Bool.false_eq_true, if_false, reduceIte, last_get, last_set, eP]
    refine ⟨⟨_, _, _, rfl, last_get _ _ _⟩, ?_⟩
    simp only [evSs, evS, evE, evEs, evO, evT, evI, rdP, startD, asgP, wipeD, binP_add, binP_addT, binP_addF, binP_addS, binP_sub, binP_mul, binP_rep, binP_div, binP_mod, binP_pow, binP_shl, binP_shr, binP_and, cmpP_lt, cmpP_le, cmpP_gt, cmpP_ge, cmpP_eqI, cmpP_neI, biP_lenT, biP_lenF, biP_lenS, biP_abs, biP_int, biP_tupF, biP_tupT, biP_lstF, biP_lstT, biP_all, biP_any, biP_max, biP_min, biP_max2, biP_min2, walk_tup, walk_fl, seq_tup, seq_fl, boolP_bl, isi_int, isi_bl, isi_tup, isi_fl, isi_str, isi_non, cmpP_in, cmpP_nin, ixP_tup, ixP_fl, ixP_scr, Option.some.injEq, exists_eq_left', List.map_cons, List.map_nil, List.length_cons, List.length_nil, List.cons_append, List.nil_append, List.getElem?_cons_zero, List.getElem?_cons_succ, List.set_cons_zero, List.set_cons_succ, Nat.reduceAdd, Nat.reduceSub, List.replicate_succ, List.replicate_zero, List.append_nil, if_true, Bool.not_false, Bool.not_true, Bool.false_eq_true, if_false, reduceIte, last_get, last_set, eN]
    have hmod : ((x.1 : Nat) : Int) % ((p : Nat) : Int) = ((x.1 % p : Nat) : Int) := (Int.natCast_emod _ _).symm
    rw [hmod]
    refine ⟨by omega, _, _, _, rfl, last_get _ _ _, rfl, size_lt (by omega), fun v hv => ?_, fun hnone => ?_⟩
    · rw [hk.look] at hv
      cases hr : resAt c p (x.1 % p) with
      | none => rw [hr] at hv; cases hv
      | some w =>
        rw [hr] at hv
        obtain rfl := Option.some.inj hv
        simp only [evSs, evS, evE, evEs, evO, evT, evI, rdP, startD, asgP, wipeD, binP_add, binP_addT, binP_addF, binP_addS, binP_sub, binP_mul, binP_rep, binP_div, binP_mod, binP_pow, binP_shl, binP_shr, binP_and, cmpP_lt, cmpP_le, cmpP_gt, cmpP_ge, cmpP_eqI, cmpP_neI, biP_lenT, biP_lenF, biP_lenS, biP_abs, biP_int, biP_tupF, biP_tupT, biP_lstF, biP_lstT, biP_all, biP_any, biP_max, biP_min, biP_max2, biP_min2, walk_tup, walk_fl, seq_tup, seq_fl, boolP_bl, isi_int, isi_bl, isi_tup, isi_fl, isi_str, isi_non, cmpP_in, cmpP_nin, ixP_tup, ixP_fl, ixP_scr, Option.some.injEq, exists_eq_left', List.map_cons, List.map_nil, List.length_cons, List.length_nil, List.cons_append, List.nil_append, List.getElem?_cons_zero, List.getElem?_cons_succ, List.set_cons_zero, List.set_cons_succ, Nat.reduceAdd, Nat.reduceSub, List.replicate_succ, List.replicate_zero, List.append_nil, if_true, Bool.not_false, Bool.not_true, Bool.false_eq_true, if_false, reduceIte, last_get, last_set, eN]
        by_cases hw : w = x.2
        · rw [if_neg (by rw [decide_eq_true (show (w : Int) = (x.2 : Int) by omega)]; decide)]
          refine hQ _ _ ⟨c ++ [x], kvs, _, _, by rw [List.append_assoc]; exact hb, fit_snoc hf (.inl (by rw [hr, hw])), ⟨fun r => ?_, hk.nums⟩, by rw [List.length_append]; omega, rfl, rfl⟩
          rw [hk.look, resAt_app]
          by_cases e : x.1 % p = r
          · rw [← e, hr]; rfl
          · have : resAt [x] p r = none := resAt_none.mpr fun y hy => by rw [List.mem_singleton.mp hy]; exact e
            rw [this, Option.or_none]
        · rw [if_pos (by rw [decide_eq_false (by omega)]; decide)]
          refine endP_drop (Nat.le_refl _) hc rfl (hno ?_)
          rw [← Bool.not_eq_true]
          intro z
          have := resAt_fit z (x := x) (by rw [← hb]; simp)
          rw [← hb, resAt_app, hr] at this
          exact hw (Option.some.inj this)
    · rw [hk.look] at hnone
      have hr : resAt c p (x.1 % p) = none := by
        cases hr : resAt c p (x.1 % p) with
        | none => rfl
        | some w => rw [hr] at hnone; cases hnone
      simp only [evSs, evS, evE, evEs, evO, evT, evI, rdP, startD, asgP, wipeD, binP_add, binP_addT, binP_addF, binP_addS, binP_sub, binP_mul, binP_rep, binP_div, binP_mod, binP_pow, binP_shl, binP_shr, binP_and, cmpP_lt, cmpP_le, cmpP_gt, cmpP_ge, cmpP_eqI, cmpP_neI, biP_lenT, biP_lenF, biP_lenS, biP_abs, biP_int, biP_tupF, biP_tupT, biP_lstF, biP_lstT, biP_all, biP_any, biP_max, biP_min, biP_max2, biP_min2, walk_tup, walk_fl, seq_tup, seq_fl, boolP_bl, isi_int, isi_bl, isi_tup, isi_fl, isi_str, isi_non, cmpP_in, cmpP_nin, ixP_tup, ixP_fl, ixP_scr, Option.some.injEq, exists_eq_left', List.map_cons, List.map_nil, List.length_cons, List.length_nil, List.cons_append, List.nil_append, List.getElem?_cons_zero, List.getElem?_cons_succ, List.set_cons_zero, List.set_cons_succ, Nat.reduceAdd, Nat.reduceSub, List.replicate_succ, List.replicate_zero, List.append_nil, if_true, Bool.not_false, Bool.not_true, Bool.false_eq_true, if_false, reduceIte, last_get, last_set]
      rw [if_neg (by simp)]
      have hne : ∀ kv ∈ kvs, kv.1 ≠ (Sum.inl ((x.1 % p : Nat) : Int) : Key) := lookD_none (by rw [hk.look, hr]; rfl)
      refine hQ _ _ ⟨c ++ [x], _, _, _, by rw [List.append_assoc]; exact hb, fit_snoc hf (.inr hr), ⟨fun r => ?_, fun kv hkv => ?_⟩, ?_, rfl, rfl⟩
      · rw [resAt_app]
        by_cases e : x.1 % p = r
        · rw [← e, hr, lookD_put]
          unfold resAt
          rw [List.find?_cons, beq_iff_eq.mpr rfl]; rfl
        · have e1 : resAt [x] p r = none := resAt_none.mpr fun y hy => by rw [List.mem_singleton.mp hy]; exact e
          rw [e1, Option.or_none, ← hk.look, putD_new hne]
          unfold lookD
          rw [List.find?_append]
          have e2 : List.find? (fun kv : Key × D => decide (kv.1 = Sum.inl ((r : Nat) : Int))) [(Sum.inl ((x.1 % p : Nat) : Int), D.int (x.2 : Nat))] = none := by
            rw [List.find?_cons, decide_eq_false (fun z => e (by have : ((x.1 % p : Nat) : Int) = (r : Nat) := Sum.inl.inj z; omega))]; rfl
          rw [e2, Option.or_none]
      · rcases mem_putD hkv with z | z
        · exact hk.nums kv z
        · rw [z]; exact ⟨_, rfl⟩
      · have := len_putD kvs (Sum.inl ((x.1 % p : Nat) : Int)) (D.int (x.2 : Nat))
        rw [List.length_append, List.length_singleton]
        omega
  · rintro ρ S' ⟨c, kvs, x3, x4, hb, hf, hk, hlen, rfl, rfl⟩
    refine ⟨fun z => z, ?_⟩
    rw [List.append_nil] at hb
    subst hb
    simp only [evSs, evS, evE, evEs, evO, evT, evI, rdP, startD, asgP, wipeD, binP_add, binP_addT, binP_addF, binP_addS, binP_sub, binP_mul, binP_rep, binP_div, binP_mod, binP_pow, binP_shl, binP_shr, binP_and, cmpP_lt, cmpP_le, cmpP_gt, cmpP_ge, cmpP_eqI, cmpP_neI, biP_lenT, biP_lenF, biP_lenS, biP_abs, biP_int, biP_tupF, biP_tupT, biP_lstF, biP_lstT, biP_all, biP_any, biP_max, biP_min, biP_max2, biP_min2, walk_tup, walk_fl, seq_tup, seq_fl, boolP_bl, isi_int, isi_bl, isi_tup, isi_fl, isi_str, isi_non, cmpP_in, cmpP_nin, ixP_tup, ixP_fl, ixP_scr, Option.some.injEq, exists_eq_left', List.map_cons, List.map_nil, List.length_cons, List.length_nil, List.cons_append, List.nil_append, List.getElem?_cons_zero, List.getElem?_cons_succ, List.set_cons_zero, List.set_cons_succ, Nat.reduceAdd, Nat.reduceSub, List.replicate_succ, List.replicate_zero, List.append_nil, if_true, Bool.not_false, Bool.not_true, Bool.false_eq_true, if_false, reduceIte, last_get, last_set]
    exact endP_at (by rw [List.length_append]; omega) (closed_app hc (hk.below _ _)) (by simp only [below, List.length_append, List.length_singleton, decide_eq_true_eq]; omega) (hyes hf kvs hk)
def p_fits : Phi := fun ds S R => ∃ (b : Bl) (p : Nat), ds = [eWs b, eN p] ∧ OkB b ∧ 1 ≤ p ∧ R (.bl (fitB b p)) S
theorem b_fits (h0 : G 0 = some p_is_integer) (h6 : G 6 = some p_check_blinks) (h7 : G 7 = some p_marks_of) (hc : closed S) (h : p_fits ds S R) : evSs G cst f_fits (endE S R) (startD N_fits ds) S := by
  obtain ⟨b, p, rfl, ok, hp, hR⟩ := h
  simp only [evSs, evS, evE, evEs, evO, evT, evI, rdP, startD, asgP, wipeD, binP_add, binP_addT, binP_addF, binP_addS, binP_sub, binP_mul, binP_rep, binP_div, binP_mod, binP_pow, binP_shl, binP_shr, binP_and, cmpP_lt, cmpP_le, cmpP_gt, cmpP_ge, cmpP_eqI, cmpP_neI, biP_lenT, biP_lenF, biP_lenS, biP_abs, biP_int, biP_tupF, biP_tupT, biP_lstF, biP_lstT, biP_all, biP_any, biP_max, biP_min, biP_max2, biP_min2, walk_tup, walk_fl, seq_tup, seq_fl, boolP_bl, isi_int, isi_bl, isi_tup, isi_fl, isi_str, isi_non, cmpP_in, cmpP_nin, ixP_tup, ixP_fl, ixP_scr, Option.some.injEq, exists_eq_left', List.map_cons, List.map_nil, List.length_cons, List.length_nil, List.cons_append, List.nil_append, List.getElem?_cons_zero, List.getElem?_cons_succ, List.set_cons_zero, List.set_cons_succ, Nat.reduceAdd, Nat.reduceSub, List.replicate_succ, List.replicate_zero, List.append_nil, if_true, Bool.not_false, Bool.not_true, Bool.false_eq_true, if_false, reduceIte, last_get, last_set, f_fits, N_fits, h0, h6, h7, p_check_blinks, p_is_integer, p_marks_of]
  refine ⟨b, rfl, ok, ?_⟩
  simp only [evSs, evS, evE, evEs, evO, evT, evI, rdP, startD, asgP, wipeD, binP_add, binP_addT, binP_addF, binP_addS, binP_sub, binP_mul, binP_rep, binP_div, binP_mod, binP_pow, binP_shl, binP_shr, binP_and, cmpP_lt, cmpP_le, cmpP_gt, cmpP_ge, cmpP_eqI, cmpP_neI, biP_lenT, biP_lenF, biP_lenS, biP_abs, biP_int, biP_tupF, biP_tupT, biP_lstF, biP_lstT, biP_all, biP_any, biP_max, biP_min, biP_max2, biP_min2, walk_tup, walk_fl, seq_tup, seq_fl, boolP_bl, isi_int, isi_bl, isi_tup, isi_fl, isi_str, isi_non, cmpP_in, cmpP_nin, ixP_tup, ixP_fl, ixP_scr, Option.some.injEq, exists_eq_left', List.map_cons, List.map_nil, List.length_cons, List.length_nil, List.cons_append, List.nil_append, List.getElem?_cons_zero, List.getElem?_cons_succ, List.set_cons_zero, List.set_cons_succ, Nat.reduceAdd, Nat.reduceSub, List.replicate_succ, List.replicate_zero, List.append_nil, if_true, Bool.not_false, Bool.not_true, Bool.false_eq_true, if_false, reduceIte, last_get, last_set, eN]
  rw [if_neg (by rw [decide_eq_false (by omega)]; decide)]
  refine ⟨b, p, rfl, by have := ok.nm; omega, hp, fun hf => ?_, fun hf kvs hk => ?_⟩
  · rw [hf] at hR
    exact endP_same (Nat.le_refl _) hc rfl hR
  · rw [hf] at hR
    exact endP_drop (Nat.le_refl _) hc rfl hR
def p_check_greatest : Phi := fun ds S R => ∃ P : Nat, ds = [eN P] ∧ 1 ≤ P ∧ P ≤ 2000 ∧ R .non S
theorem b_check_greatest (h2 : G 2 = some p_is_between) (hc : closed S) (h : p_check_greatest ds S R) : evSs G cst f_check_greatest (endE S R) (startD N_check_greatest ds) S := by
  obtain ⟨P, rfl, h1, h3, hR⟩ := h
  simp only [evSs, evS, evE, evEs, evO, evT, evI, rdP, startD, asgP, wipeD, binP_add, binP_addT, binP_addF, binP_addS, binP_sub, binP_mul, binP_rep, binP_div, binP_mod, binP_pow, binP_shl, binP_shr, binP_and, cmpP_lt, cmpP_le, cmpP_gt, cmpP_ge, cmpP_eqI, cmpP_neI, biP_lenT, biP_lenF, biP_lenS, biP_abs, biP_int, biP_tupF, biP_tupT, biP_lstF, biP_lstT, biP_all, biP_any, biP_max, biP_min, biP_max2, biP_min2, walk_tup, walk_fl, seq_tup, seq_fl, boolP_bl, isi_int, isi_bl, isi_tup, isi_fl, isi_str, isi_non, cmpP_in, cmpP_nin, ixP_tup, ixP_fl, ixP_scr, Option.some.injEq, exists_eq_left', List.map_cons, List.map_nil, List.length_cons, List.length_nil, List.cons_append, List.nil_append, List.getElem?_cons_zero, List.getElem?_cons_succ, List.set_cons_zero, List.set_cons_succ, Nat.reduceAdd, Nat.reduceSub, List.replicate_succ, List.replicate_zero, List.append_nil, if_true, Bool.not_false, Bool.not_true, Bool.false_eq_true, if_false, reduceIte, last_get, last_set, f_check_greatest, N_check_greatest, h2, p_is_between, eN, cst]
  rw [if_neg (by rw [decide_eq_true (show (1 : Int) ≤ (P : Int) by omega), decide_eq_true (show (P : Int) ≤ 2000 by omega)]; decide)]
  exact endP_same (Nat.le_refl _) hc rfl hR
theorem rg_one (P : Nat) : rgD 1 (((P : Int) + 1 - 1).toNat) = ((List.range P).map (· + 1)).map eN := by
  rw [show ((P : Int) + 1 - 1).toNat = P by omega, List.map_map]
  unfold rgD
  refine List.map_congr_left fun i _ => ?_
  show D.int (1 + (i : Int)) = D.int ((i + 1 : Nat) : Int)
  rw [show (1 + (i : Int)) = ((i + 1 : Nat) : Int) by omega]
def p_periods : Phi := fun ds S R => ∃ (b : Bl) (P : Nat), ds = [eWs b, eN P] ∧ OkB b ∧ 1 ≤ P ∧ P ≤ 2000 ∧ R (eL (goods b P)) S
theorem b_periods (h6 : G 6 = some p_check_blinks) (h7 : G 7 = some p_marks_of) (h9 : G 9 = some p_check_greatest) (hc : closed S) (h : p_periods ds S R) : evSs G cst f_periods (endE S R) (startD N_periods ds) S := by
  obtain ⟨b, P, rfl, ok, hP1, hP2, hR⟩ := h
  simp only [evSs, evS, evE, evEs, evO, evT, evI, rdP, startD, asgP, wipeD, binP_add, binP_addT, binP_addF, binP_addS, binP_sub, binP_mul, binP_rep, binP_div, binP_mod, binP_pow, binP_shl, binP_shr, binP_and, cmpP_lt, cmpP_le, cmpP_gt, cmpP_ge, cmpP_eqI, cmpP_neI, biP_lenT, biP_lenF, biP_lenS, biP_abs, biP_int, biP_tupF, biP_tupT, biP_lstF, biP_lstT, biP_all, biP_any, biP_max, biP_min, biP_max2, biP_min2, walk_tup, walk_fl, seq_tup, seq_fl, boolP_bl, isi_int, isi_bl, isi_tup, isi_fl, isi_str, isi_non, cmpP_in, cmpP_nin, ixP_tup, ixP_fl, ixP_scr, Option.some.injEq, exists_eq_left', List.map_cons, List.map_nil, List.length_cons, List.length_nil, List.cons_append, List.nil_append, List.getElem?_cons_zero, List.getElem?_cons_succ, List.set_cons_zero, List.set_cons_succ, Nat.reduceAdd, Nat.reduceSub, List.replicate_succ, List.replicate_zero, List.append_nil, if_true, Bool.not_false, Bool.not_true, Bool.false_eq_true, if_false, reduceIte, last_get, last_set, f_periods, N_periods, h6, h7, h9, p_check_blinks, p_check_greatest, p_marks_of]
  refine ⟨b, rfl, ok, P, rfl, hP1, hP2, ?_⟩
  simp only [evSs, evS, evE, evEs, evO, evT, evI, rdP, startD, asgP, wipeD, binP_add, binP_addT, binP_addF, binP_addS, binP_sub, binP_mul, binP_rep, binP_div, binP_mod, binP_pow, binP_shl, binP_shr, binP_and, cmpP_lt, cmpP_le, cmpP_gt, cmpP_ge, cmpP_eqI, cmpP_neI, biP_lenT, biP_lenF, biP_lenS, biP_abs, biP_int, biP_tupF, biP_tupT, biP_lstF, biP_lstT, biP_all, biP_any, biP_max, biP_min, biP_max2, biP_min2, walk_tup, walk_fl, seq_tup, seq_fl, boolP_bl, isi_int, isi_bl, isi_tup, isi_fl, isi_str, isi_non, cmpP_in, cmpP_nin, ixP_tup, ixP_fl, ixP_scr, Option.some.injEq, exists_eq_left', List.map_cons, List.map_nil, List.length_cons, List.length_nil, List.cons_append, List.nil_append, List.getElem?_cons_zero, List.getElem?_cons_succ, List.set_cons_zero, List.set_cons_succ, Nat.reduceAdd, Nat.reduceSub, List.replicate_succ, List.replicate_zero, List.append_nil, if_true, Bool.not_false, Bool.not_true, Bool.false_eq_true, if_false, reduceIte, last_get, last_set, eN]
  refine ⟨⟨by omega, by omega, by omega, by omega⟩, ?_⟩
  refine mapP_stF eN (fitB b) eN (fun S' => ∃ ex, S' = S ++ ex) ((List.range P).map (· + 1)) (rg_one P) ⟨[], (List.append_nil S).symm⟩ (fun q hq S' hS' Q hQ => ?_) (fun _ _ => trivial) (by rw [List.length_map, List.length_range]; omega) (fun S' hS' => ?_)
  · obtain ⟨ex, rfl⟩ := hS'
    obtain ⟨i, _, rfl⟩ := List.mem_map.mp hq
    refine ⟨b, i + 1, rfl, by have := ok.nm; omega, by omega, fun hf => ?_, fun hf kvs hk => ?_⟩
    · have := hQ _ ⟨ex, rfl⟩
      rw [hf] at this
      exact this
    · have := hQ (S ++ ex ++ [.dct false kvs]) ⟨ex ++ [.dct false kvs], List.append_assoc _ _ _⟩
      rw [hf] at this
      exact this
  · obtain ⟨ex, rfl⟩ := hS'
    exact endP_drop (Nat.le_refl _) hc (below_eL _ _) hR
end K13

set_option Elab.async false
set_option linter.all false
set_option maxRecDepth 100000
set_option maxHeartbeats 1000000
/-! A5: the mark of a moment. -/
namespace K13
open PySem PySem.Spec PyProof.Rows L2 DL
variable {G : Nat → Option Phi} {S : Store} {R : RE} {ds : List D}
theorem below_encK (n : Nat) (b : Bool) (ks : List Key) : (Ob.dct b (encK ks)).below n = true := by
  show belows n ((encK ks).map (·.2)) = true
  unfold encK
  rw [List.map_map]
  exact belows_map (fun _ => rfl) ks
theorem keyOf_mk (o : Option Nat) : keyOf (unKey (mkK o)) = some (mkK o) := by cases o <;> rfl
def saidP (b : Bl) (mo : Int) (c : List Nat) : List Key := ((says b (c.filter (fitB b)) mo).map mkK).foldl addK []
theorem saidP_snoc (b : Bl) (mo : Int) (c : List Nat) (q : Nat) : saidP b mo (c ++ [q]) = if fitB b q = true then addK (saidP b mo c) (mkK (resAt b q (rs mo q))) else saidP b mo c := by
  unfold saidP says
  rw [List.filter_append, List.filter_cons]
  split
  · rw [List.filter_nil, List.map_append, List.map_append, List.foldl_append]; rfl
  · rw [List.filter_nil, List.append_nil]
theorem saidP_len (b : Bl) (mo : Int) (c : List Nat) : (saidP b mo c).length ≤ c.length := by
  have h := foldK_len ((says b (c.filter (fitB b)) mo).map mkK) []
  unfold says at h
  rw [List.length_map, List.length_map, List.length_nil] at h
  have := List.length_filter_le (fitB b) c
  unfold saidP says
  omega
def p_mark : Phi := fun ds S R => ∃ (b : Bl) (P : Nat) (mo : Int), ds = [eWs b, eN P, .int mo] ∧ OkB b ∧ 1 ≤ P ∧ P ≤ 2000 ∧ R (markV (says b (goods b P) mo)) S
theorem b_mark (h0 : G 0 = some p_is_integer) (h6 : G 6 = some p_check_blinks) (h7 : G 7 = some p_marks_of) (h9 : G 9 = some p_check_greatest) (hc : closed S) (h : p_mark ds S R) : evSs G cst f_mark (endE S R) (startD N_mark ds) S := by
  obtain ⟨b, P, mo, rfl, ok, hP1, hP2, hR⟩ := h
  simp only [evSs, evS, evE, evEs, evO, evT, evI, rdP, startD, asgP, wipeD, binP_add, binP_addT, binP_addF, binP_addS, binP_sub, binP_mul, binP_rep, binP_div, binP_mod, binP_pow, binP_shl, binP_shr, binP_and, cmpP_lt, cmpP_le, cmpP_gt, cmpP_ge, cmpP_eqI, cmpP_neI, biP_lenT, biP_lenF, biP_lenS, biP_abs, biP_int, biP_tupF, biP_tupT, biP_lstF, biP_lstT, biP_all, biP_any, biP_max, biP_min, biP_max2, biP_min2, walk_tup, walk_fl, seq_tup, seq_fl, boolP_bl, isi_int, isi_bl, isi_tup, isi_fl, isi_str, isi_non, cmpP_in, cmpP_nin, ixP_tup, ixP_fl, ixP_scr, Option.some.injEq, exists_eq_left', List.map_cons, List.map_nil, List.length_cons, List.length_nil, List.cons_append, List.nil_append, List.getElem?_cons_zero, List.getElem?_cons_succ, List.set_cons_zero, List.set_cons_succ, Nat.reduceAdd, Nat.reduceSub, List.replicate_succ, List.replicate_zero, List.append_nil, if_true, Bool.not_false, Bool.not_true, Bool.false_eq_true, if_false, reduceIte, last_get, last_set, f_mark, N_mark, h0, h6, h7, h9, p_is_integer, p_check_blinks, p_check_greatest, p_marks_of]
  refine ⟨b, rfl, ok, P, rfl, hP1, hP2, ?_⟩
  simp only [evSs, evS, evE, evEs, evO, evT, evI, rdP, startD, asgP, wipeD, binP_add, binP_addT, binP_addF, binP_addS, binP_sub, binP_mul, binP_rep, binP_div, binP_mod, binP_pow, binP_shl, binP_shr, binP_and, cmpP_lt, cmpP_le, cmpP_gt, cmpP_ge, cmpP_eqI, cmpP_neI, biP_lenT, biP_lenF, biP_lenS, biP_abs, biP_int, biP_tupF, biP_tupT, biP_lstF, biP_lstT, biP_all, biP_any, biP_max, biP_min, biP_max2, biP_min2, walk_tup, walk_fl, seq_tup, seq_fl, boolP_bl, isi_int, isi_bl, isi_tup, isi_fl, isi_str, isi_non, cmpP_in, cmpP_nin, ixP_tup, ixP_fl, ixP_scr, Option.some.injEq, exists_eq_left', List.map_cons, List.map_nil, List.length_cons, List.length_nil, List.cons_append, List.nil_append, List.getElem?_cons_zero, List.getElem?_cons_succ, List.set_cons_zero, List.set_cons_succ, Nat.reduceAdd, Nat.reduceSub, List.replicate_succ, List.replicate_zero, List.append_nil, if_true, Bool.not_false, Bool.not_true, Bool.false_eq_true, if_false, reduceIte, last_get, last_set, eN]
  refine ⟨⟨by omega, by omega, by omega, by omega⟩, ?_⟩
  refine forP_of eN (fun xs ρ S' => ∃ (c : List Nat) (ex : Store) (x4 x5 : Option D), c ++ xs = (List.range P).map (· + 1) ∧ S' = S ++ .dct false (encK (saidP b mo c)) :: ex ∧ ρ = [some (eWs b), some (eN P), some (.int mo), some (.ref S.length), x4, x5]) ((List.range P).map (· + 1)) (rg_one P)
    ⟨[], [], none, none, rfl, rfl, rfl⟩ ?_ ?_
  · rintro q xs ρ S' ⟨c, ex, x4, x5, hcs, rfl, rfl⟩
    refine ⟨trivial, fun Q hQ => ?_⟩
    have hq : 1 ≤ q := by
      have : q ∈ (List.range P).map (· + 1) := by rw [← hcs]; simp
      obtain ⟨i, _, rfl⟩ := List.mem_map.mp this
      omega
    have hcl : c.length ≤ 2000 := by
      have := congrArg List.length hcs
      rw [List.length_append, List.length_map, List.length_range] at this
      omega
    have hsl := saidP_len b mo c
    have hsn := saidP_snoc b mo c q
    have hcs2 : (c ++ [q]) ++ xs = (List.range P).map (· + 1) := by rw [List.append_assoc]; exact hcs
    simp only [evSs, evS, evE, evEs, evO, evT, evI, rdP, startD, asgP, wipeD, binP_add, binP_addT, binP_addF, binP_addS, binP_sub, binP_mul, binP_rep, binP_div, binP_mod, binP_pow, binP_shl, binP_shr, binP_and, cmpP_lt, cmpP_le, cmpP_gt, cmpP_ge, cmpP_eqI, cmpP_neI, biP_lenT, biP_lenF, biP_lenS, biP_abs, biP_int, biP_tupF, biP_tupT, biP_lstF, biP_lstT, biP_all, biP_any, biP_max, biP_min, biP_max2, biP_min2, walk_tup, walk_fl, seq_tup, seq_fl, boolP_bl, isi_int, isi_bl, isi_tup, isi_fl, isi_str, isi_non, cmpP_in, cmpP_nin, ixP_tup, ixP_fl, ixP_scr, Option.some.injEq, exists_eq_left', List.map_cons, List.map_nil, List.length_cons, List.length_nil, List.cons_append, List.nil_append, List.getElem?_cons_zero, List.getElem?_cons_succ, List.set_cons_zero, List.set_cons_succ, Nat.reduceAdd, Nat.reduceSub, List.replicate_succ, List.replicate_zero, List.append_nil, if_true, Bool.not_false, Bool.not_true, Bool.false_eq_true, if_false, reduceIte, last_get, last_set, eN]
    refine ⟨b, q, rfl, by have := ok.nm; omega, hq, fun hf => ?_, fun hf kvs hk => ?_⟩
    · rw [hf, if_neg (by decide)] at hsn
      simp only [evSs, evS, evE, evEs, evO, evT, evI, rdP, startD, asgP, wipeD, binP_add, binP_addT, binP_addF, binP_addS, binP_sub, binP_mul, binP_rep, binP_div, binP_mod, binP_pow, binP_shl, binP_shr, binP_and, cmpP_lt, cmpP_le, cmpP_gt, cmpP_ge, cmpP_eqI, cmpP_neI, biP_lenT, biP_lenF, biP_lenS, biP_abs, biP_int, biP_tupF, biP_tupT, biP_lstF, biP_lstT, biP_all, biP_any, biP_max, biP_min, biP_max2, biP_min2, walk_tup, walk_fl, seq_tup, seq_fl, boolP_bl, isi_int, isi_bl, isi_tup, isi_fl, isi_str, isi_non, cmpP_in, cmpP_nin, ixP_tup, ixP_fl, ixP_scr, Option.some.injEq, exists_eq_left', List.map_cons, List.map_nil, List.length_cons, List.length_nil, List.cons_append, List.nil_append, List.getElem?_cons_zero, List.getElem?_cons_succ, List.set_cons_zero, List.set_cons_succ, Nat.reduceAdd, Nat.reduceSub, List.replicate_succ, List.replicate_zero, List.append_nil, if_true, Bool.not_false, Bool.not_true, Bool.false_eq_true, if_false, reduceIte, last_get, last_set, cmpP]
      exact hQ _ _ ⟨c ++ [q], ex, _, _, hcs2, by rw [hsn], rfl⟩
    · rw [hf, if_pos rfl] at hsn
      simp only [evSs, evS, evE, evEs, evO, evT, evI, rdP, startD, asgP, wipeD, binP_add, binP_addT, binP_addF, binP_addS, binP_sub, binP_mul, binP_rep, binP_div, binP_mod, binP_pow, binP_shl, binP_shr, binP_and, cmpP_lt, cmpP_le, cmpP_gt, cmpP_ge, cmpP_eqI, cmpP_neI, biP_lenT, biP_lenF, biP_lenS, biP_abs, biP_int, biP_tupF, biP_tupT, biP_lstF, biP_lstT, biP_all, biP_any, biP_max, biP_min, biP_max2, biP_min2, walk_tup, walk_fl, seq_tup, seq_fl, boolP_bl, isi_int, isi_bl, isi_tup, isi_fl, isi_str, isi_non, cmpP_in, cmpP_nin, ixP_tup, ixP_fl, ixP_scr, Option.some.injEq, exists_eq_left', List.map_cons, List.map_nil, List.length_cons, List.length_nil, List.cons_append, List.nil_append, List.getElem?_cons_zero, List.getElem?_cons_succ, List.set_cons_zero, List.set_cons_succ, Nat.reduceAdd, Nat.reduceSub, List.replicate_succ, List.replicate_zero, List.append_nil, if_true, Bool.not_false, Bool.not_true, Bool.false_eq_true, if_false, reduceIte, last_get, last_set, cmpP]
      have hl : ((S ++ Ob.dct false (encK (saidP b mo c)) :: ex) ++ [Ob.dct false kvs])[(S ++ Ob.dct false (encK (saidP b mo c)) :: ex).length]? = some (Ob.dct false kvs) := last_get _ _ _
      refine ⟨⟨_, _, _, rfl, hl⟩, ?_⟩
      refine ⟨by omega, _, _, _, _, rfl, hl, rfl, ?_⟩
      rw [← rs_cast hq, hk.look]
      have ev : ((resAt b q (rs mo q)).map eN).getD (.str "perhaps") = unKey (mkK (resAt b q (rs mo q))) := by
        cases resAt b q (rs mo q) <;> rfl
      rw [ev]
      have hl0 : ((S ++ Ob.dct false (encK (saidP b mo c)) :: ex) ++ [Ob.dct false kvs])[S.length]? = some (Ob.dct false (encK (saidP b mo c))) := by
        rw [List.append_assoc]; exact last_get _ _ _
      refine putP_dct hl0 (keyOf_mk _) (by unfold encK; rw [List.length_map]; omega) ?_
      rw [put_encK, ← hsn, List.append_assoc, List.cons_append, last_set]
      exact hQ _ _ ⟨c ++ [q], ex ++ [.dct false kvs], _, _, hcs2, rfl, rfl⟩
  · rintro ρ S' ⟨c, ex, x4, x5, hcs, rfl, rfl⟩
    refine ⟨trivial, ?_⟩
    rw [List.append_nil] at hcs
    subst hcs
    have hl : (S ++ Ob.dct false (encK (saidP b mo ((List.range P).map (· + 1)))) :: ex)[S.length]? = some (Ob.dct false (encK (saidP b mo ((List.range P).map (· + 1))))) := last_get _ _ _
    have hsay : sayK (saidP b mo ((List.range P).map (· + 1))) = markV (says b (goods b P) mo) := sayK_mark fun x hx => says_lt ok.m2 hx
    rw [← hsay] at hR
    revert hl hR
    generalize saidP b mo ((List.range P).map (· + 1)) = ks
    intro hR hl
    simp only [evSs, evS, evE, evEs, evO, evT, evI, rdP, startD, asgP, wipeD, binP_add, binP_addT, binP_addF, binP_addS, binP_sub, binP_mul, binP_rep, binP_div, binP_mod, binP_pow, binP_shl, binP_shr, binP_and, cmpP_lt, cmpP_le, cmpP_gt, cmpP_ge, cmpP_eqI, cmpP_neI, biP_lenT, biP_lenF, biP_lenS, biP_abs, biP_int, biP_tupF, biP_tupT, biP_lstF, biP_lstT, biP_all, biP_any, biP_max, biP_min, biP_max2, biP_min2, walk_tup, walk_fl, seq_tup, seq_fl, boolP_bl, isi_int, isi_bl, isi_tup, isi_fl, isi_str, isi_non, cmpP_in, cmpP_nin, ixP_tup, ixP_fl, ixP_scr, Option.some.injEq, exists_eq_left', List.map_cons, List.map_nil, List.length_cons, List.length_nil, List.cons_append, List.nil_append, List.getElem?_cons_zero, List.getElem?_cons_succ, List.set_cons_zero, List.set_cons_succ, Nat.reduceAdd, Nat.reduceSub, List.replicate_succ, List.replicate_zero, List.append_nil, if_true, Bool.not_false, Bool.not_true, Bool.false_eq_true, if_false, reduceIte, last_get, last_set]
    simp only [biP, hl]
    simp only [evSs, evS, evE, evEs, evO, evT, evI, rdP, startD, asgP, wipeD, binP_add, binP_addT, binP_addF, binP_addS, binP_sub, binP_mul, binP_rep, binP_div, binP_mod, binP_pow, binP_shl, binP_shr, binP_and, cmpP_lt, cmpP_le, cmpP_gt, cmpP_ge, cmpP_eqI, cmpP_neI, biP_lenT, biP_lenF, biP_lenS, biP_abs, biP_int, biP_tupF, biP_tupT, biP_lstF, biP_lstT, biP_all, biP_any, biP_max, biP_min, biP_max2, biP_min2, walk_tup, walk_fl, seq_tup, seq_fl, boolP_bl, isi_int, isi_bl, isi_tup, isi_fl, isi_str, isi_non, cmpP_in, cmpP_nin, ixP_tup, ixP_fl, ixP_scr, Option.some.injEq, exists_eq_left', List.map_cons, List.map_nil, List.length_cons, List.length_nil, List.cons_append, List.nil_append, List.getElem?_cons_zero, List.getElem?_cons_succ, List.set_cons_zero, List.set_cons_succ, Nat.reduceAdd, Nat.reduceSub, List.replicate_succ, List.replicate_zero, List.append_nil, if_true, Bool.not_false, Bool.not_true, Bool.false_eq_true, if_false, reduceIte, last_get, last_set]
    match ks, hR, hl with
    | [], hR, hl =>
      rw [if_pos (by decide)]
      exact endP_drop (Nat.le_refl _) hc rfl hR
    | [k], hR, hl =>
      rw [if_neg (by show ¬ decide ((1 : Int) = 0) = true; decide), if_pos (by show decide ((1 : Int) = 1) = true; decide)]
      refine ⟨_, _, rfl, hl, ?_⟩
      simp only [evSs, evS, evE, evEs, evO, evT, evI, rdP, startD, asgP, wipeD, binP_add, binP_addT, binP_addF, binP_addS, binP_sub, binP_mul, binP_rep, binP_div, binP_mod, binP_pow, binP_shl, binP_shr, binP_and, cmpP_lt, cmpP_le, cmpP_gt, cmpP_ge, cmpP_eqI, cmpP_neI, biP_lenT, biP_lenF, biP_lenS, biP_abs, biP_int, biP_tupF, biP_tupT, biP_lstF, biP_lstT, biP_all, biP_any, biP_max, biP_min, biP_max2, biP_min2, walk_tup, walk_fl, seq_tup, seq_fl, boolP_bl, isi_int, isi_bl, isi_tup, isi_fl, isi_str, isi_non, cmpP_in, cmpP_nin, ixP_tup, ixP_fl, ixP_scr, Option.some.injEq, exists_eq_left', List.map_cons, List.map_nil, List.length_cons, List.length_nil, List.cons_append, List.nil_append, List.getElem?_cons_zero, List.getElem?_cons_succ, List.set_cons_zero, List.set_cons_succ, Nat.reduceAdd, Nat.reduceSub, List.replicate_succ, List.replicate_zero, List.append_nil, if_true, Bool.not_false, Bool.not_true, Bool.false_eq_true, if_false, reduceIte, last_get, last_set, encK]
      refine ⟨_, at0, ?_⟩
      refine endP_drop (Nat.le_refl _) hc ?_ hR
      show below _ (unKey k) = true
      cases k <;> rfl
    | k :: k' :: r, hR, hl =>
      rw [if_neg (by unfold encK; rw [List.length_map, decide_eq_false (by simp only [List.length_cons]; omega)]; decide)]
      rw [if_neg (by unfold encK; rw [List.length_map, decide_eq_false (by simp only [List.length_cons]; omega)]; decide)]
      exact endP_drop (Nat.le_refl _) hc rfl hR
end K13

set_option Elab.async false
set_option linter.all false
set_option maxRecDepth 100000
set_option maxHeartbeats 1000000
/-! A6: the law's own small defs. -/
namespace K13
open PySem PySem.Spec PyProof.Rows L2 DL
variable {G : Nat → Option Phi} {S : Store} {R : RE} {ds : List D}
theorem str_empty (x : Str) : (("" : Str) ++ x) = x := by
  cases x with
  | mk c =>
    show Str.mk (#[] ++ c) = Str.mk c
    rw [Array.empty_append]
theorem b_cell (hc : closed S) (h : p_cell ds S R) : evSs G cst f__law_cell (endE S R) (startD N__law_cell ds) S := by
  obtain ⟨ns, k, rfl, hR⟩ := h
  unfold DL.cellOf at hR
  simp only [evSs, evS, evE, evEs, evO, evT, evI, rdP, startD, asgP, wipeD, binP_add, binP_addT, binP_addF, binP_addS, binP_sub, binP_mul, binP_rep, binP_div, binP_mod, binP_pow, binP_shl, binP_shr, binP_and, cmpP_lt, cmpP_le, cmpP_gt, cmpP_ge, cmpP_eqI, cmpP_neI, biP_lenT, biP_lenF, biP_lenS, biP_abs, biP_int, biP_tupF, biP_tupT, biP_lstF, biP_lstT, biP_all, biP_any, biP_max, biP_min, biP_max2, biP_min2, walk_tup, walk_fl, seq_tup, seq_fl, boolP_bl, isi_int, isi_bl, isi_tup, isi_fl, isi_str, isi_non, cmpP_in, cmpP_nin, ixP_tup, ixP_fl, ixP_scr, Option.some.injEq, exists_eq_left', List.map_cons, List.map_nil, List.length_cons, List.length_nil, List.cons_append, List.nil_append, List.getElem?_cons_zero, List.getElem?_cons_succ, List.set_cons_zero, List.set_cons_succ, Nat.reduceAdd, Nat.reduceSub, List.replicate_succ, List.replicate_zero, List.append_nil, if_true, Bool.not_false, Bool.not_true, Bool.false_eq_true, if_false, reduceIte, last_get, last_set, f__law_cell, N__law_cell, eN]
  by_cases hk : k < ns.length
  · rw [if_pos (decide_eq_true (by omega))]
    rw [if_pos hk] at hR
    refine ⟨.int (ns.getD k 0), L2.atI_nat (by rw [List.getElem?_map, List.getElem?_eq_getElem hk, List.getD_eq_getElem?_getD, List.getElem?_eq_getElem hk]; rfl), ?_⟩
    simp only [evSs, evS, evE, evEs, evO, evT, evI, rdP, startD, asgP, wipeD, binP_add, binP_addT, binP_addF, binP_addS, binP_sub, binP_mul, binP_rep, binP_div, binP_mod, binP_pow, binP_shl, binP_shr, binP_and, cmpP_lt, cmpP_le, cmpP_gt, cmpP_ge, cmpP_eqI, cmpP_neI, biP_lenT, biP_lenF, biP_lenS, biP_abs, biP_int, biP_tupF, biP_tupT, biP_lstF, biP_lstT, biP_all, biP_any, biP_max, biP_min, biP_max2, biP_min2, walk_tup, walk_fl, seq_tup, seq_fl, boolP_bl, isi_int, isi_bl, isi_tup, isi_fl, isi_str, isi_non, cmpP_in, cmpP_nin, ixP_tup, ixP_fl, ixP_scr, Option.some.injEq, exists_eq_left', List.map_cons, List.map_nil, List.length_cons, List.length_nil, List.cons_append, List.nil_append, List.getElem?_cons_zero, List.getElem?_cons_succ, List.set_cons_zero, List.set_cons_succ, Nat.reduceAdd, Nat.reduceSub, List.replicate_succ, List.replicate_zero, List.append_nil, if_true, Bool.not_false, Bool.not_true, Bool.false_eq_true, if_false, reduceIte, last_get, last_set]
    refine endP_same (Nat.le_refl _) hc rfl ?_
    have e : (if ns.getD k 0 < 0 then -ns.getD k 0 else ns.getD k 0) = (((ns.getD k 0).natAbs : Nat) : Int) := by split <;> omega
    rw [e]
    exact hR
  · rw [if_neg (by rw [decide_eq_false (by omega)]; decide)]
    rw [if_neg hk] at hR
    exact endP_same (Nat.le_refl _) hc rfl hR
theorem b_stream (h : G 12 = some p_cell) (hc : closed S) (h : p_stream ds S R) : evSs G cst f__law_stream (endE S R) (startD N__law_stream ds) S := by
  rename_i hcell
  obtain ⟨ns, k, rfl, hR⟩ := h
  simp only [evSs, evS, evE, evEs, evO, evT, evI, rdP, startD, asgP, wipeD, binP_add, binP_addT, binP_addF, binP_addS, binP_sub, binP_mul, binP_rep, binP_div, binP_mod, binP_pow, binP_shl, binP_shr, binP_and, cmpP_lt, cmpP_le, cmpP_gt, cmpP_ge, cmpP_eqI, cmpP_neI, biP_lenT, biP_lenF, biP_lenS, biP_abs, biP_int, biP_tupF, biP_tupT, biP_lstF, biP_lstT, biP_all, biP_any, biP_max, biP_min, biP_max2, biP_min2, walk_tup, walk_fl, seq_tup, seq_fl, boolP_bl, isi_int, isi_bl, isi_tup, isi_fl, isi_str, isi_non, cmpP_in, cmpP_nin, ixP_tup, ixP_fl, ixP_scr, Option.some.injEq, exists_eq_left', List.map_cons, List.map_nil, List.length_cons, List.length_nil, List.cons_append, List.nil_append, List.getElem?_cons_zero, List.getElem?_cons_succ, List.set_cons_zero, List.set_cons_succ, Nat.reduceAdd, Nat.reduceSub, List.replicate_succ, List.replicate_zero, List.append_nil, if_true, Bool.not_false, Bool.not_true, Bool.false_eq_true, if_false, reduceIte, last_get, last_set, f__law_stream, N__law_stream, hcell, p_cell]
  refine ⟨ns, k, rfl, ns, k, rfl, ?_⟩
  simp only [evSs, evS, evE, evEs, evO, evT, evI, rdP, startD, asgP, wipeD, binP_add, binP_addT, binP_addF, binP_addS, binP_sub, binP_mul, binP_rep, binP_div, binP_mod, binP_pow, binP_shl, binP_shr, binP_and, cmpP_lt, cmpP_le, cmpP_gt, cmpP_ge, cmpP_eqI, cmpP_neI, biP_lenT, biP_lenF, biP_lenS, biP_abs, biP_int, biP_tupF, biP_tupT, biP_lstF, biP_lstT, biP_all, biP_any, biP_max, biP_min, biP_max2, biP_min2, walk_tup, walk_fl, seq_tup, seq_fl, boolP_bl, isi_int, isi_bl, isi_tup, isi_fl, isi_str, isi_non, cmpP_in, cmpP_nin, ixP_tup, ixP_fl, ixP_scr, Option.some.injEq, exists_eq_left', List.map_cons, List.map_nil, List.length_cons, List.length_nil, List.cons_append, List.nil_append, List.getElem?_cons_zero, List.getElem?_cons_succ, List.set_cons_zero, List.set_cons_succ, Nat.reduceAdd, Nat.reduceSub, List.replicate_succ, List.replicate_zero, List.append_nil, if_true, Bool.not_false, Bool.not_true, Bool.false_eq_true, if_false, reduceIte, last_get, last_set, eN]
  refine ⟨.inr (.inl ⟨by decide, by decide⟩), by decide, size_small (by decide), ?_⟩
  have e : (1 : Int) + 48271 * (DL.cellOf ns k : Nat) % 2147483647 = ((1 + 48271 * DL.cellOf ns k % 2147483647 : Nat) : Int) := by omega
  rw [e]
  refine endP_at (by rw [List.length_append]; omega) (closed_app hc rfl) (by simp only [below, List.length_append, List.length_singleton]; exact decide_eq_true (Nat.lt_succ_self _)) (hR _ _ ?_)
  omega
theorem b_draw (hc : closed S) (h : p_draw ds S R) : evSs G cst f__law_draw (endE S R) (startD N__law_draw ds) S := by
  obtain ⟨n, h, a, b, rfl, hn, hb, h0, h1, hR⟩ := h
  have out : ∀ (r : Nat) (a b : Nat), r < h → b ≤ 2147483647 → endP S.length R (eN r) (S.set n (boxO a b)) := fun r a b hr hb =>
    endP_at (by rw [List.length_set]; exact Nat.le_refl _) (closed_set hc rfl) rfl (hR r a b hr hb)
  have hx : ∀ S' : Store, S' = S → ∀ Q : D → Prop, (Q (eN a) → ixP S' (.ref n) (.int 0) Q) ∧ (Q (eN b) → ixP S' (.ref n) (.int 1) Q) := by
    rintro S' rfl Q
    exact ⟨fun q => ixP_lst hn at0 q, fun q => ixP_lst hn at1 q⟩
  simp only [evSs, evS, evE, evEs, evO, evT, evI, rdP, startD, asgP, wipeD, binP_add, binP_addT, binP_addF, binP_addS, binP_sub, binP_mul, binP_rep, binP_div, binP_mod, binP_pow, binP_shl, binP_shr, binP_and, cmpP_lt, cmpP_le, cmpP_gt, cmpP_ge, cmpP_eqI, cmpP_neI, biP_lenT, biP_lenF, biP_lenS, biP_abs, biP_int, biP_tupF, biP_tupT, biP_lstF, biP_lstT, biP_all, biP_any, biP_max, biP_min, biP_max2, biP_min2, walk_tup, walk_fl, seq_tup, seq_fl, boolP_bl, isi_int, isi_bl, isi_tup, isi_fl, isi_str, isi_non, cmpP_in, cmpP_nin, ixP_tup, ixP_fl, ixP_scr, Option.some.injEq, exists_eq_left', List.map_cons, List.map_nil, List.length_cons, List.length_nil, List.cons_append, List.nil_append, List.getElem?_cons_zero, List.getElem?_cons_succ, List.set_cons_zero, List.set_cons_succ, Nat.reduceAdd, Nat.reduceSub, List.replicate_succ, List.replicate_zero, List.append_nil, if_true, Bool.not_false, Bool.not_true, Bool.false_eq_true, if_false, reduceIte, last_get, last_set, f__law_draw, N__law_draw]
  refine (hx S rfl _).1 ?_
  simp only [evSs, evS, evE, evEs, evO, evT, evI, rdP, startD, asgP, wipeD, binP_add, binP_addT, binP_addF, binP_addS, binP_sub, binP_mul, binP_rep, binP_div, binP_mod, binP_pow, binP_shl, binP_shr, binP_and, cmpP_lt, cmpP_le, cmpP_gt, cmpP_ge, cmpP_eqI, cmpP_neI, biP_lenT, biP_lenF, biP_lenS, biP_abs, biP_int, biP_tupF, biP_tupT, biP_lstF, biP_lstT, biP_all, biP_any, biP_max, biP_min, biP_max2, biP_min2, walk_tup, walk_fl, seq_tup, seq_fl, boolP_bl, isi_int, isi_bl, isi_tup, isi_fl, isi_str, isi_non, cmpP_in, cmpP_nin, ixP_tup, ixP_fl, ixP_scr, Option.some.injEq, exists_eq_left', List.map_cons, List.map_nil, List.length_cons, List.length_nil, List.cons_append, List.nil_append, List.getElem?_cons_zero, List.getElem?_cons_succ, List.set_cons_zero, List.set_cons_succ, Nat.reduceAdd, Nat.reduceSub, List.replicate_succ, List.replicate_zero, List.append_nil, if_true, Bool.not_false, Bool.not_true, Bool.false_eq_true, if_false, reduceIte, last_get, last_set, eN]
  by_cases ha : 0 < a
  · rw [if_pos (decide_eq_true (by omega))]
    refine (hx S rfl _).1 ?_
    simp only [evSs, evS, evE, evEs, evO, evT, evI, rdP, startD, asgP, wipeD, binP_add, binP_addT, binP_addF, binP_addS, binP_sub, binP_mul, binP_rep, binP_div, binP_mod, binP_pow, binP_shl, binP_shr, binP_and, cmpP_lt, cmpP_le, cmpP_gt, cmpP_ge, cmpP_eqI, cmpP_neI, biP_lenT, biP_lenF, biP_lenS, biP_abs, biP_int, biP_tupF, biP_tupT, biP_lstF, biP_lstT, biP_all, biP_any, biP_max, biP_min, biP_max2, biP_min2, walk_tup, walk_fl, seq_tup, seq_fl, boolP_bl, isi_int, isi_bl, isi_tup, isi_fl, isi_str, isi_non, cmpP_in, cmpP_nin, ixP_tup, ixP_fl, ixP_scr, Option.some.injEq, exists_eq_left', List.map_cons, List.map_nil, List.length_cons, List.length_nil, List.cons_append, List.nil_append, List.getElem?_cons_zero, List.getElem?_cons_succ, List.set_cons_zero, List.set_cons_succ, Nat.reduceAdd, Nat.reduceSub, List.replicate_succ, List.replicate_zero, List.append_nil, if_true, Bool.not_false, Bool.not_true, Bool.false_eq_true, if_false, reduceIte, last_get, last_set, eN]
    refine ⟨div_ok h0 (Nat.le_refl h) h1 _, ?_⟩
    refine putP_lst (i := 0) hn (by simp) ?_
    refine ⟨by omega, ?_⟩
    have e1 : (a : Int) / (h : Int) = ((a / h : Nat) : Int) := (Int.natCast_ediv _ _).symm
    have e2 : (a : Int) % (h : Int) = ((a % h : Nat) : Int) := (Int.natCast_emod _ _).symm
    rw [e1, e2]
    exact out (a % h) (a / h) b (Nat.mod_lt _ h0) hb
  · rw [if_neg (by rw [decide_eq_false (by omega)]; decide)]
    refine (hx S rfl _).2 ?_
    simp only [evSs, evS, evE, evEs, evO, evT, evI, rdP, startD, asgP, wipeD, binP_add, binP_addT, binP_addF, binP_addS, binP_sub, binP_mul, binP_rep, binP_div, binP_mod, binP_pow, binP_shl, binP_shr, binP_and, cmpP_lt, cmpP_le, cmpP_gt, cmpP_ge, cmpP_eqI, cmpP_neI, biP_lenT, biP_lenF, biP_lenS, biP_abs, biP_int, biP_tupF, biP_tupT, biP_lstF, biP_lstT, biP_all, biP_any, biP_max, biP_min, biP_max2, biP_min2, walk_tup, walk_fl, seq_tup, seq_fl, boolP_bl, isi_int, isi_bl, isi_tup, isi_fl, isi_str, isi_non, cmpP_in, cmpP_nin, ixP_tup, ixP_fl, ixP_scr, Option.some.injEq, exists_eq_left', List.map_cons, List.map_nil, List.length_cons, List.length_nil, List.cons_append, List.nil_append, List.getElem?_cons_zero, List.getElem?_cons_succ, List.set_cons_zero, List.set_cons_succ, Nat.reduceAdd, Nat.reduceSub, List.replicate_succ, List.replicate_zero, List.append_nil, if_true, Bool.not_false, Bool.not_true, Bool.false_eq_true, if_false, reduceIte, last_get, last_set, eN]
    refine ⟨.inr (.inl ⟨by decide, by decide⟩), by decide, ?_⟩
    refine putP_lst (i := 1) hn (by simp) ?_
    have e0 : (69621 : Int) * (b : Nat) % 2147483647 = ((69621 * b % 2147483647 : Nat) : Int) := by omega
    rw [e0]
    refine ixP_lst (get_set hn) at1 ?_
    simp only [evSs, evS, evE, evEs, evO, evT, evI, rdP, startD, asgP, wipeD, binP_add, binP_addT, binP_addF, binP_addS, binP_sub, binP_mul, binP_rep, binP_div, binP_mod, binP_pow, binP_shl, binP_shr, binP_and, cmpP_lt, cmpP_le, cmpP_gt, cmpP_ge, cmpP_eqI, cmpP_neI, biP_lenT, biP_lenF, biP_lenS, biP_abs, biP_int, biP_tupF, biP_tupT, biP_lstF, biP_lstT, biP_all, biP_any, biP_max, biP_min, biP_max2, biP_min2, walk_tup, walk_fl, seq_tup, seq_fl, boolP_bl, isi_int, isi_bl, isi_tup, isi_fl, isi_str, isi_non, cmpP_in, cmpP_nin, ixP_tup, ixP_fl, ixP_scr, Option.some.injEq, exists_eq_left', List.map_cons, List.map_nil, List.length_cons, List.length_nil, List.cons_append, List.nil_append, List.getElem?_cons_zero, List.getElem?_cons_succ, List.set_cons_zero, List.set_cons_succ, Nat.reduceAdd, Nat.reduceSub, List.replicate_succ, List.replicate_zero, List.append_nil, if_true, Bool.not_false, Bool.not_true, Bool.false_eq_true, if_false, reduceIte, last_get, last_set]
    refine ⟨wide_div (b := 3) (by decide) (by decide) (by decide) (by decide), by omega, ?_⟩
    have e1 : (((69621 * b % 2147483647 : Nat) : Int) / 7 % (h : Int)) = ((69621 * b % 2147483647 / 7 % h : Nat) : Int) := by
      rw [Int.natCast_emod (69621 * b % 2147483647 / 7) h, Int.natCast_ediv]; rfl
    rw [e1]
    exact out (69621 * b % 2147483647 / 7 % h) a (69621 * b % 2147483647) (Nat.mod_lt _ h0) (by omega)
theorem b_read0 (hc : closed S) (h : p_read 0 ds S R) : evSs G cst f__law_read (endE S R) (startD N__law_read ds) S := by
  obtain ⟨d, rfl, hd, hR⟩ := h
  have out := endP_same (Nat.le_refl _) hc (okR_below d _ hd) hR
  cases d with
  | non => simp only [evSs, evS, evE, evEs, evO, evT, evI, rdP, startD, asgP, wipeD, binP_add, binP_addT, binP_addF, binP_addS, binP_sub, binP_mul, binP_rep, binP_div, binP_mod, binP_pow, binP_shl, binP_shr, binP_and, cmpP_lt, cmpP_le, cmpP_gt, cmpP_ge, cmpP_eqI, cmpP_neI, biP_lenT, biP_lenF, biP_lenS, biP_abs, biP_int, biP_tupF, biP_tupT, biP_lstF, biP_lstT, biP_all, biP_any, biP_max, biP_min, biP_max2, biP_min2, walk_tup, walk_fl, seq_tup, seq_fl, boolP_bl, isi_int, isi_bl, isi_tup, isi_fl, isi_str, isi_non, cmpP_in, cmpP_nin, ixP_tup, ixP_fl, ixP_scr, Option.some.injEq, exists_eq_left', List.map_cons, List.map_nil, List.length_cons, List.length_nil, List.cons_append, List.nil_append, List.getElem?_cons_zero, List.getElem?_cons_succ, List.set_cons_zero, List.set_cons_succ, Nat.reduceAdd, Nat.reduceSub, List.replicate_succ, List.replicate_zero, List.append_nil, if_true, Bool.not_false, Bool.not_true, Bool.false_eq_true, if_false, reduceIte, last_get, last_set, f__law_read, N__law_read, cmpP]; exact out
  | bl b => 
    cases b with
    | true => simp only [evSs, evS, evE, evEs, evO, evT, evI, rdP, startD, asgP, wipeD, binP_add, binP_addT, binP_addF, binP_addS, binP_sub, binP_mul, binP_rep, binP_div, binP_mod, binP_pow, binP_shl, binP_shr, binP_and, cmpP_lt, cmpP_le, cmpP_gt, cmpP_ge, cmpP_eqI, cmpP_neI, biP_lenT, biP_lenF, biP_lenS, biP_abs, biP_int, biP_tupF, biP_tupT, biP_lstF, biP_lstT, biP_all, biP_any, biP_max, biP_min, biP_max2, biP_min2, walk_tup, walk_fl, seq_tup, seq_fl, boolP_bl, isi_int, isi_bl, isi_tup, isi_fl, isi_str, isi_non, cmpP_in, cmpP_nin, ixP_tup, ixP_fl, ixP_scr, Option.some.injEq, exists_eq_left', List.map_cons, List.map_nil, List.length_cons, List.length_nil, List.cons_append, List.nil_append, List.getElem?_cons_zero, List.getElem?_cons_succ, List.set_cons_zero, List.set_cons_succ, Nat.reduceAdd, Nat.reduceSub, List.replicate_succ, List.replicate_zero, List.append_nil, if_true, Bool.not_false, Bool.not_true, Bool.false_eq_true, if_false, reduceIte, last_get, last_set, f__law_read, N__law_read, cmpP, decide_true]; exact out
    | false => simp only [evSs, evS, evE, evEs, evO, evT, evI, rdP, startD, asgP, wipeD, binP_add, binP_addT, binP_addF, binP_addS, binP_sub, binP_mul, binP_rep, binP_div, binP_mod, binP_pow, binP_shl, binP_shr, binP_and, cmpP_lt, cmpP_le, cmpP_gt, cmpP_ge, cmpP_eqI, cmpP_neI, biP_lenT, biP_lenF, biP_lenS, biP_abs, biP_int, biP_tupF, biP_tupT, biP_lstF, biP_lstT, biP_all, biP_any, biP_max, biP_min, biP_max2, biP_min2, walk_tup, walk_fl, seq_tup, seq_fl, boolP_bl, isi_int, isi_bl, isi_tup, isi_fl, isi_str, isi_non, cmpP_in, cmpP_nin, ixP_tup, ixP_fl, ixP_scr, Option.some.injEq, exists_eq_left', List.map_cons, List.map_nil, List.length_cons, List.length_nil, List.cons_append, List.nil_append, List.getElem?_cons_zero, List.getElem?_cons_succ, List.set_cons_zero, List.set_cons_succ, Nat.reduceAdd, Nat.reduceSub, List.replicate_succ, List.replicate_zero, List.append_nil, if_true, Bool.not_false, Bool.not_true, Bool.false_eq_true, if_false, reduceIte, last_get, last_set, f__law_read, N__law_read, cmpP, decide_true]; exact out
  | int i => simp only [evSs, evS, evE, evEs, evO, evT, evI, rdP, startD, asgP, wipeD, binP_add, binP_addT, binP_addF, binP_addS, binP_sub, binP_mul, binP_rep, binP_div, binP_mod, binP_pow, binP_shl, binP_shr, binP_and, cmpP_lt, cmpP_le, cmpP_gt, cmpP_ge, cmpP_eqI, cmpP_neI, biP_lenT, biP_lenF, biP_lenS, biP_abs, biP_int, biP_tupF, biP_tupT, biP_lstF, biP_lstT, biP_all, biP_any, biP_max, biP_min, biP_max2, biP_min2, walk_tup, walk_fl, seq_tup, seq_fl, boolP_bl, isi_int, isi_bl, isi_tup, isi_fl, isi_str, isi_non, cmpP_in, cmpP_nin, ixP_tup, ixP_fl, ixP_scr, Option.some.injEq, exists_eq_left', List.map_cons, List.map_nil, List.length_cons, List.length_nil, List.cons_append, List.nil_append, List.getElem?_cons_zero, List.getElem?_cons_succ, List.set_cons_zero, List.set_cons_succ, Nat.reduceAdd, Nat.reduceSub, List.replicate_succ, List.replicate_zero, List.append_nil, if_true, Bool.not_false, Bool.not_true, Bool.false_eq_true, if_false, reduceIte, last_get, last_set, f__law_read, N__law_read, cmpP]; exact out
  | str x =>
    simp only [okR, decide_eq_true_eq] at hd
    simp only [evSs, evS, evE, evEs, evO, evT, evI, rdP, startD, asgP, wipeD, binP_add, binP_addT, binP_addF, binP_addS, binP_sub, binP_mul, binP_rep, binP_div, binP_mod, binP_pow, binP_shl, binP_shr, binP_and, cmpP_lt, cmpP_le, cmpP_gt, cmpP_ge, cmpP_eqI, cmpP_neI, biP_lenT, biP_lenF, biP_lenS, biP_abs, biP_int, biP_tupF, biP_tupT, biP_lstF, biP_lstT, biP_all, biP_any, biP_max, biP_min, biP_max2, biP_min2, walk_tup, walk_fl, seq_tup, seq_fl, boolP_bl, isi_int, isi_bl, isi_tup, isi_fl, isi_str, isi_non, cmpP_in, cmpP_nin, ixP_tup, ixP_fl, ixP_scr, Option.some.injEq, exists_eq_left', List.map_cons, List.map_nil, List.length_cons, List.length_nil, List.cons_append, List.nil_append, List.getElem?_cons_zero, List.getElem?_cons_succ, List.set_cons_zero, List.set_cons_succ, Nat.reduceAdd, Nat.reduceSub, List.replicate_succ, List.replicate_zero, List.append_nil, if_true, Bool.not_false, Bool.not_true, Bool.false_eq_true, if_false, reduceIte, last_get, last_set, f__law_read, N__law_read, cmpP, str_empty]
    exact ⟨size_small (by show 0 + x.length ≤ _; omega), out⟩
  | _ => simp [okR] at hd
theorem b_read {r : Nat} (hr : G 15 = some (p_read r)) (hc : closed S) (h : p_read (r + 1) ds S R) : evSs G cst f__law_read (endE S R) (startD N__law_read ds) S := by
  obtain ⟨d, rfl, hd, hR⟩ := h
  have out := endP_same (Nat.le_refl _) hc (okR_below d _ hd) hR
  cases d with
  | non => simp only [evSs, evS, evE, evEs, evO, evT, evI, rdP, startD, asgP, wipeD, binP_add, binP_addT, binP_addF, binP_addS, binP_sub, binP_mul, binP_rep, binP_div, binP_mod, binP_pow, binP_shl, binP_shr, binP_and, cmpP_lt, cmpP_le, cmpP_gt, cmpP_ge, cmpP_eqI, cmpP_neI, biP_lenT, biP_lenF, biP_lenS, biP_abs, biP_int, biP_tupF, biP_tupT, biP_lstF, biP_lstT, biP_all, biP_any, biP_max, biP_min, biP_max2, biP_min2, walk_tup, walk_fl, seq_tup, seq_fl, boolP_bl, isi_int, isi_bl, isi_tup, isi_fl, isi_str, isi_non, cmpP_in, cmpP_nin, ixP_tup, ixP_fl, ixP_scr, Option.some.injEq, exists_eq_left', List.map_cons, List.map_nil, List.length_cons, List.length_nil, List.cons_append, List.nil_append, List.getElem?_cons_zero, List.getElem?_cons_succ, List.set_cons_zero, List.set_cons_succ, Nat.reduceAdd, Nat.reduceSub, List.replicate_succ, List.replicate_zero, List.append_nil, if_true, Bool.not_false, Bool.not_true, Bool.false_eq_true, if_false, reduceIte, last_get, last_set, f__law_read, N__law_read, cmpP]; exact out
  | bl b => 
    cases b with
    | true => simp only [evSs, evS, evE, evEs, evO, evT, evI, rdP, startD, asgP, wipeD, binP_add, binP_addT, binP_addF, binP_addS, binP_sub, binP_mul, binP_rep, binP_div, binP_mod, binP_pow, binP_shl, binP_shr, binP_and, cmpP_lt, cmpP_le, cmpP_gt, cmpP_ge, cmpP_eqI, cmpP_neI, biP_lenT, biP_lenF, biP_lenS, biP_abs, biP_int, biP_tupF, biP_tupT, biP_lstF, biP_lstT, biP_all, biP_any, biP_max, biP_min, biP_max2, biP_min2, walk_tup, walk_fl, seq_tup, seq_fl, boolP_bl, isi_int, isi_bl, isi_tup, isi_fl, isi_str, isi_non, cmpP_in, cmpP_nin, ixP_tup, ixP_fl, ixP_scr, Option.some.injEq, exists_eq_left', List.map_cons, List.map_nil, List.length_cons, List.length_nil, List.cons_append, List.nil_append, List.getElem?_cons_zero, List.getElem?_cons_succ, List.set_cons_zero, List.set_cons_succ, Nat.reduceAdd, Nat.reduceSub, List.replicate_succ, List.replicate_zero, List.append_nil, if_true, Bool.not_false, Bool.not_true, Bool.false_eq_true, if_false, reduceIte, last_get, last_set, f__law_read, N__law_read, cmpP]; exact out
    | false => simp only [evSs, evS, evE, evEs, evO, evT, evI, rdP, startD, asgP, wipeD, binP_add, binP_addT, binP_addF, binP_addS, binP_sub, binP_mul, binP_rep, binP_div, binP_mod, binP_pow, binP_shl, binP_shr, binP_and, cmpP_lt, cmpP_le, cmpP_gt, cmpP_ge, cmpP_eqI, cmpP_neI, biP_lenT, biP_lenF, biP_lenS, biP_abs, biP_int, biP_tupF, biP_tupT, biP_lstF, biP_lstT, biP_all, biP_any, biP_max, biP_min, biP_max2, biP_min2, walk_tup, walk_fl, seq_tup, seq_fl, boolP_bl, isi_int, isi_bl, isi_tup, isi_fl, isi_str, isi_non, cmpP_in, cmpP_nin, ixP_tup, ixP_fl, ixP_scr, Option.some.injEq, exists_eq_left', List.map_cons, List.map_nil, List.length_cons, List.length_nil, List.cons_append, List.nil_append, List.getElem?_cons_zero, List.getElem?_cons_succ, List.set_cons_zero, List.set_cons_succ, Nat.reduceAdd, Nat.reduceSub, List.replicate_succ, List.replicate_zero, List.append_nil, if_true, Bool.not_false, Bool.not_true, Bool.false_eq_true, if_false, reduceIte, last_get, last_set, f__law_read, N__law_read, cmpP]; exact out
  | int i => simp only [evSs, evS, evE, evEs, evO, evT, evI, rdP, startD, asgP, wipeD, binP_add, binP_addT, binP_addF, binP_addS, binP_sub, binP_mul, binP_rep, binP_div, binP_mod, binP_pow, binP_shl, binP_shr, binP_and, cmpP_lt, cmpP_le, cmpP_gt, cmpP_ge, cmpP_eqI, cmpP_neI, biP_lenT, biP_lenF, biP_lenS, biP_abs, biP_int, biP_tupF, biP_tupT, biP_lstF, biP_lstT, biP_all, biP_any, biP_max, biP_min, biP_max2, biP_min2, walk_tup, walk_fl, seq_tup, seq_fl, boolP_bl, isi_int, isi_bl, isi_tup, isi_fl, isi_str, isi_non, cmpP_in, cmpP_nin, ixP_tup, ixP_fl, ixP_scr, Option.some.injEq, exists_eq_left', List.map_cons, List.map_nil, List.length_cons, List.length_nil, List.cons_append, List.nil_append, List.getElem?_cons_zero, List.getElem?_cons_succ, List.set_cons_zero, List.set_cons_succ, Nat.reduceAdd, Nat.reduceSub, List.replicate_succ, List.replicate_zero, List.append_nil, if_true, Bool.not_false, Bool.not_true, Bool.false_eq_true, if_false, reduceIte, last_get, last_set, f__law_read, N__law_read, cmpP]; exact out
  | str x =>
    simp only [okR, decide_eq_true_eq] at hd
    simp only [evSs, evS, evE, evEs, evO, evT, evI, rdP, startD, asgP, wipeD, binP_add, binP_addT, binP_addF, binP_addS, binP_sub, binP_mul, binP_rep, binP_div, binP_mod, binP_pow, binP_shl, binP_shr, binP_and, cmpP_lt, cmpP_le, cmpP_gt, cmpP_ge, cmpP_eqI, cmpP_neI, biP_lenT, biP_lenF, biP_lenS, biP_abs, biP_int, biP_tupF, biP_tupT, biP_lstF, biP_lstT, biP_all, biP_any, biP_max, biP_min, biP_max2, biP_min2, walk_tup, walk_fl, seq_tup, seq_fl, boolP_bl, isi_int, isi_bl, isi_tup, isi_fl, isi_str, isi_non, cmpP_in, cmpP_nin, ixP_tup, ixP_fl, ixP_scr, Option.some.injEq, exists_eq_left', List.map_cons, List.map_nil, List.length_cons, List.length_nil, List.cons_append, List.nil_append, List.getElem?_cons_zero, List.getElem?_cons_succ, List.set_cons_zero, List.set_cons_succ, Nat.reduceAdd, Nat.reduceSub, List.replicate_succ, List.replicate_zero, List.append_nil, if_true, Bool.not_false, Bool.not_true, Bool.false_eq_true, if_false, reduceIte, last_get, last_set, f__law_read, N__law_read, cmpP, str_empty]
    exact ⟨size_small (by show 0 + x.length ≤ _; omega), out⟩
  | tup xs =>
    simp only [okR, Bool.and_eq_true, decide_eq_true_eq, Nat.add_sub_cancel] at hd
    simp only [evSs, evS, evE, evEs, evO, evT, evI, rdP, startD, asgP, wipeD, binP_add, binP_addT, binP_addF, binP_addS, binP_sub, binP_mul, binP_rep, binP_div, binP_mod, binP_pow, binP_shl, binP_shr, binP_and, cmpP_lt, cmpP_le, cmpP_gt, cmpP_ge, cmpP_eqI, cmpP_neI, biP_lenT, biP_lenF, biP_lenS, biP_abs, biP_int, biP_tupF, biP_tupT, biP_lstF, biP_lstT, biP_all, biP_any, biP_max, biP_min, biP_max2, biP_min2, walk_tup, walk_fl, seq_tup, seq_fl, boolP_bl, isi_int, isi_bl, isi_tup, isi_fl, isi_str, isi_non, cmpP_in, cmpP_nin, ixP_tup, ixP_fl, ixP_scr, Option.some.injEq, exists_eq_left', List.map_cons, List.map_nil, List.length_cons, List.length_nil, List.cons_append, List.nil_append, List.getElem?_cons_zero, List.getElem?_cons_succ, List.set_cons_zero, List.set_cons_succ, Nat.reduceAdd, Nat.reduceSub, List.replicate_succ, List.replicate_zero, List.append_nil, if_true, Bool.not_false, Bool.not_true, Bool.false_eq_true, if_false, reduceIte, last_get, last_set, f__law_read, N__law_read, cmpP, hr, p_read]
    refine mapP_all id id xs (List.map_id xs).symm (fun x hx Q hQ => ?_) (fun z => z) hd.1.2 ?_
    · exact ⟨x, rfl, okRs_mem hd.2 hx, hQ⟩
    · rw [List.map_id]
      exact out
  | fl xs =>
    simp only [okR, Bool.and_eq_true, decide_eq_true_eq, Nat.add_sub_cancel] at hd
    simp only [evSs, evS, evE, evEs, evO, evT, evI, rdP, startD, asgP, wipeD, binP_add, binP_addT, binP_addF, binP_addS, binP_sub, binP_mul, binP_rep, binP_div, binP_mod, binP_pow, binP_shl, binP_shr, binP_and, cmpP_lt, cmpP_le, cmpP_gt, cmpP_ge, cmpP_eqI, cmpP_neI, biP_lenT, biP_lenF, biP_lenS, biP_abs, biP_int, biP_tupF, biP_tupT, biP_lstF, biP_lstT, biP_all, biP_any, biP_max, biP_min, biP_max2, biP_min2, walk_tup, walk_fl, seq_tup, seq_fl, boolP_bl, isi_int, isi_bl, isi_tup, isi_fl, isi_str, isi_non, cmpP_in, cmpP_nin, ixP_tup, ixP_fl, ixP_scr, Option.some.injEq, exists_eq_left', List.map_cons, List.map_nil, List.length_cons, List.length_nil, List.cons_append, List.nil_append, List.getElem?_cons_zero, List.getElem?_cons_succ, List.set_cons_zero, List.set_cons_succ, Nat.reduceAdd, Nat.reduceSub, List.replicate_succ, List.replicate_zero, List.append_nil, if_true, Bool.not_false, Bool.not_true, Bool.false_eq_true, if_false, reduceIte, last_get, last_set, f__law_read, N__law_read, cmpP, hr, p_read]
    refine mapP_all id id xs (List.map_id xs).symm (fun x hx Q hQ => ?_) (fun z => z) hd.1.2 ?_
    · exact ⟨x, rfl, okRs_mem hd.2 hx, hQ⟩
    · rw [List.map_id]
      exact out
  | _ => simp [okR] at hd
/-! ### draws -/
theorem draw_n {n a b a' b' : Nat} (hn : S[n]? = some (boxO a' b')) (h : Nat) (hb : b ≤ 2147483647) (h0 : 0 < h) (h1 : h ≤ 1000000) (k : ∀ r a b, r < h → b ≤ 2147483647 → R (eN r) (S.set n (boxO a b))) : p_draw [.ref n, eN h] (S.set n (boxO a b)) R :=
  ⟨n, h, a, b, rfl, get_set hn, hb, h0, h1, fun r a b hr hb => by rw [List.set_set]; exact k r a b hr hb⟩
theorem draw_x {n a b a' b' : Nat} {ex : Store} (hn : S[n]? = some (boxO a' b')) (h : Nat) (hb : b ≤ 2147483647) (h0 : 0 < h) (h1 : h ≤ 1000000) (k : ∀ r a b, r < h → b ≤ 2147483647 → R (eN r) (S.set n (boxO a b) ++ ex)) : p_draw [.ref n, eN h] (S.set n (boxO a b) ++ ex) R :=
  ⟨n, h, a, b, rfl, get_app (get_set hn), hb, h0, h1, fun r a b hr hb => by rw [set_app (get_set hn), List.set_set]; exact k r a b hr hb⟩
theorem set_back {n a b : Nat} (hn : S[n]? = some (boxO a b)) : S = S.set n (boxO a b) := (set_same hn).symm
/-! ### sets of numbers -/
theorem set_sort (l : List Nat) : ∃ m : List Nat, (sortI (setI (l.map fun n : Nat => (n : Int)))).map D.int = m.map eN ∧ Inc m ∧ (∀ x, x ∈ m ↔ x ∈ l) ∧ m.length ≤ l.length := by
  have h1 : ∀ i ∈ setI (l.map fun n : Nat => (n : Int)), ((i.toNat : Nat) : Int) = i := fun i hi => by
    obtain ⟨x, _, rfl⟩ := List.mem_map.mp (setI_mem.mp hi)
    rfl
  have h2 : ((setI (l.map fun n : Nat => (n : Int))).map Int.toNat).map (fun n : Nat => (n : Int)) = setI (l.map fun n : Nat => (n : Int)) := by
    rw [List.map_map]
    conv => rhs; rw [← List.map_id (setI (l.map fun n : Nat => (n : Int)))]
    exact List.map_congr_left fun i hi => h1 i hi
  have nd : ((setI (l.map fun n : Nat => (n : Int))).map Int.toNat).Nodup := by
    have := setI_nodup (l.map fun n : Nat => (n : Int))
    rw [← h2, List.nodup_iff_pairwise_ne, List.pairwise_map] at this
    rw [List.nodup_iff_pairwise_ne]
    exact this.imp fun hne e => hne (by rw [e])
  have mem : ∀ x : Nat, x ∈ (setI (l.map fun n : Nat => (n : Int))).map Int.toNat ↔ x ∈ l := fun x => by
    rw [← mem_cast, h2, setI_mem, mem_cast]
  have hl : ((setI (l.map fun n : Nat => (n : Int))).map Int.toNat).length ≤ l.length := by
    have := setI_len_le (l.map fun n : Nat => (n : Int))
    rw [List.length_map] at this ⊢
    exact this
  rw [← h2]
  revert nd mem hl
  generalize (setI (l.map fun n : Nat => (n : Int))).map Int.toNat = u
  intro nd mem hl
  refine ⟨sortN u, sorted_cast u, sortN_inc nd, fun x => by rw [sortN_mem, mem], by rw [sortN_length]; exact hl⟩
theorem set_inc {l : List Nat} (h : Inc l) : (sortI (setI (l.map fun n : Nat => (n : Int)))).map D.int = l.map eN := by
  obtain ⟨m, h1, h2, h3, _⟩ := set_sort l
  rw [h1, sorted_uniq h2 h h3]
def p_lblinks : Phi := fun ds S R => ∃ n a b : Nat, ds = [.ref n] ∧ S[n]? = some (boxO a b) ∧ b ≤ 2147483647 ∧ ∀ bl p word a b, DrB bl p word → b ≤ 2147483647 → R (.tup [eN p, .fl (word.map eN), eWs bl]) (S.set n (boxO a b))
theorem b_lblinks (h14 : G 14 = some p_draw) (hc : closed S) (h : p_lblinks ds S R) : evSs G cst f__law_blinks (endE S R) (startD N__law_blinks ds) S := by
  obtain ⟨n, a, b, rfl, hn, hb, hR⟩ := h
  simp only [evSs, evS, evE, evEs, evO, evT, evI, rdP, startD, asgP, wipeD, binP_add, binP_addT, binP_addF, binP_addS, binP_sub, binP_mul, binP_rep, binP_div, binP_mod, binP_pow, binP_shl, binP_shr, binP_and, cmpP_lt, cmpP_le, cmpP_gt, cmpP_ge, cmpP_eqI, cmpP_neI, biP_lenT, biP_lenF, biP_lenS, biP_abs, biP_int, biP_tupF, biP_tupT, biP_lstF, biP_lstT, biP_all, biP_any, biP_max, biP_min, biP_max2, biP_min2, walk_tup, walk_fl, seq_tup, seq_fl, boolP_bl, isi_int, isi_bl, isi_tup, isi_fl, isi_str, isi_non, cmpP_in, cmpP_nin, ixP_tup, ixP_fl, ixP_scr, Option.some.injEq, exists_eq_left', List.map_cons, List.map_nil, List.length_cons, List.length_nil, List.cons_append, List.nil_append, List.getElem?_cons_zero, List.getElem?_cons_succ, List.set_cons_zero, List.set_cons_succ, Nat.reduceAdd, Nat.reduceSub, List.replicate_succ, List.replicate_zero, List.append_nil, if_true, Bool.not_false, Bool.not_true, Bool.false_eq_true, if_false, reduceIte, last_get, last_set, f__law_blinks, N__law_blinks, h14]
  refine ⟨n, 30, a, b, rfl, hn, hb, by decide, by decide, fun r a b hr hb => ?_⟩
  simp only [evSs, evS, evE, evEs, evO, evT, evI, rdP, startD, asgP, wipeD, binP_add, binP_addT, binP_addF, binP_addS, binP_sub, binP_mul, binP_rep, binP_div, binP_mod, binP_pow, binP_shl, binP_shr, binP_and, cmpP_lt, cmpP_le, cmpP_gt, cmpP_ge, cmpP_eqI, cmpP_neI, biP_lenT, biP_lenF, biP_lenS, biP_abs, biP_int, biP_tupF, biP_tupT, biP_lstF, biP_lstT, biP_all, biP_any, biP_max, biP_min, biP_max2, biP_min2, walk_tup, walk_fl, seq_tup, seq_fl, boolP_bl, isi_int, isi_bl, isi_tup, isi_fl, isi_str, isi_non, cmpP_in, cmpP_nin, ixP_tup, ixP_fl, ixP_scr, Option.some.injEq, exists_eq_left', List.map_cons, List.map_nil, List.length_cons, List.length_nil, List.cons_append, List.nil_append, List.getElem?_cons_zero, List.getElem?_cons_succ, List.set_cons_zero, List.set_cons_succ, Nat.reduceAdd, Nat.reduceSub, List.replicate_succ, List.replicate_zero, List.append_nil, if_true, Bool.not_false, Bool.not_true, Bool.false_eq_true, if_false, reduceIte, last_get, last_set, eN]
  have e1 : (1 : Int) + (r : Nat) = ((1 + r : Nat) : Int) := by omega
  rw [e1]
  generalize hp : 1 + r = p
  have hp1 : 1 ≤ p := by omega
  have hp2 : p ≤ 30 := by omega
  refine ⟨by omega, by omega, ?_⟩
  refine mapP_draws (fun a b => S.set n (boxO a b)) eN (fun d => ∃ r, r < 2 ∧ d = eN r) (List.range p) (by rw [Int.toNat_natCast, rgD_zero]) (by rw [List.length_range]; omega) hb (fun x _ a b hb Q hQ => ?_) (fun _ _ => trivial) (fun rs a b hrs hlen hb => ?_)
  · exact draw_n hn 2 hb (by decide) (by decide) fun r a b hr hb => hQ _ _ _ hb ⟨r, hr, rfl⟩
  · obtain ⟨word, rfl, hw⟩ := nats_of hrs
    rw [List.length_map, List.length_range] at hlen
    refine draw_n hn 40 hb (by decide) (by decide) fun r a b hr hb => ?_
    simp only [evSs, evS, evE, evEs, evO, evT, evI, rdP, startD, asgP, wipeD, binP_add, binP_addT, binP_addF, binP_addS, binP_sub, binP_mul, binP_rep, binP_div, binP_mod, binP_pow, binP_shl, binP_shr, binP_and, cmpP_lt, cmpP_le, cmpP_gt, cmpP_ge, cmpP_eqI, cmpP_neI, biP_lenT, biP_lenF, biP_lenS, biP_abs, biP_int, biP_tupF, biP_tupT, biP_lstF, biP_lstT, biP_all, biP_any, biP_max, biP_min, biP_max2, biP_min2, walk_tup, walk_fl, seq_tup, seq_fl, boolP_bl, isi_int, isi_bl, isi_tup, isi_fl, isi_str, isi_non, cmpP_in, cmpP_nin, ixP_tup, ixP_fl, ixP_scr, Option.some.injEq, exists_eq_left', List.map_cons, List.map_nil, List.length_cons, List.length_nil, List.cons_append, List.nil_append, List.getElem?_cons_zero, List.getElem?_cons_succ, List.set_cons_zero, List.set_cons_succ, Nat.reduceAdd, Nat.reduceSub, List.replicate_succ, List.replicate_zero, List.append_nil, if_true, Bool.not_false, Bool.not_true, Bool.false_eq_true, if_false, reduceIte, last_get, last_set, eN]
    refine ⟨by omega, by omega, ?_⟩
    refine mapP_draws (fun a b => S.set n (boxO a b)) id (fun d => ∃ r, r < 9000 ∧ d = eN r) (rgD 0 (1 + (r : Int)).toNat) (List.map_id _).symm (by unfold rgD; rw [List.length_map, List.length_range]; omega) hb (fun x _ a b hb Q hQ => ?_) (fun _ _ => trivial) (fun rs a b hrs hlen2 hb => ?_)
    · exact draw_n hn 9000 hb (by decide) (by decide) fun r a b hr hb => hQ _ _ _ hb ⟨r, hr, rfl⟩
    · obtain ⟨l, rfl, hl⟩ := nats_of hrs
      have hl2 : l.length = 1 + r := by
        unfold rgD at hlen2
        rw [List.length_map, List.length_map, List.length_range] at hlen2
        omega
      obtain ⟨ms, hs1, hs2, hs3, hs4⟩ := set_sort l
      refine ⟨_, _, rfl, ints_eN l, by rw [List.length_map]; omega, ?_⟩
      rw [hs1]
      have hat : ∀ m : Nat, word[m % p]? = some (word.getD (m % p) 0) := fun m => by
        have : m % p < word.length := by rw [hlen]; exact Nat.mod_lt _ (by omega)
        rw [List.getD_eq_getElem?_getD, List.getElem?_eq_getElem this]
        rfl
      refine mapP_all eN (fun m => eP (m, word.getD (m % p) 0)) ms rfl (fun m hm Q hQ => ?_) (fun z => z) (by omega) ?_
      · simp only [evSs, evS, evE, evEs, evO, evT, evI, rdP, startD, asgP, wipeD, binP_add, binP_addT, binP_addF, binP_addS, binP_sub, binP_mul, binP_rep, binP_div, binP_mod, binP_pow, binP_shl, binP_shr, binP_and, cmpP_lt, cmpP_le, cmpP_gt, cmpP_ge, cmpP_eqI, cmpP_neI, biP_lenT, biP_lenF, biP_lenS, biP_abs, biP_int, biP_tupF, biP_tupT, biP_lstF, biP_lstT, biP_all, biP_any, biP_max, biP_min, biP_max2, biP_min2, walk_tup, walk_fl, seq_tup, seq_fl, boolP_bl, isi_int, isi_bl, isi_tup, isi_fl, isi_str, isi_non, cmpP_in, cmpP_nin, ixP_tup, ixP_fl, ixP_scr, Option.some.injEq, exists_eq_left', List.map_cons, List.map_nil, List.length_cons, List.length_nil, List.cons_append, List.nil_append, List.getElem?_cons_zero, List.getElem?_cons_succ, List.set_cons_zero, List.set_cons_succ, Nat.reduceAdd, Nat.reduceSub, List.replicate_succ, List.replicate_zero, List.append_nil, if_true, Bool.not_false, Bool.not_true, Bool.false_eq_true, if_false, reduceIte, last_get, last_set, eN]
        have hmod : ((m : Nat) : Int) % ((p : Nat) : Int) = ((m % p : Nat) : Int) := (Int.natCast_emod _ _).symm
        rw [hmod]
        refine ⟨by omega, _, atL (hat m), size_small (by decide), hQ⟩
      · refine ⟨size_small (by decide), ?_⟩
        refine endP_at (by rw [List.length_set]; exact Nat.le_refl _) (closed_set hc rfl) ?_ ?_
        · simp only [below, belows, Bool.and_eq_true]
          refine ⟨trivial, ?_, ?_, trivial⟩
          · exact belows_map (fun _ => rfl) word
          · exact belows_map (fun _ => rfl) ms
        · have e : (D.tup (ms.map fun m => eP (m, word.getD (m % p) 0))) = eWs (ms.map fun m => (m, word.getD (m % p) 0)) := by
            unfold eWs; rw [List.map_map]; rfl
          rw [e]
          have hms : ms ≠ [] := fun z => by
            have h0 : 0 < l.length := by omega
            have := (hs3 l[0]).mpr (List.getElem_mem _)
            rw [z] at this; cases this
          refine hR _ p word a b ⟨⟨?_, ?_, ?_, ?_, ?_⟩, hp1, hp2, hlen, ?_, hw, ?_⟩ hb
          · rw [List.length_map]; exact List.length_pos_iff.mpr hms
          · rw [List.length_map]; omega
          · intro x hx
            obtain ⟨m, hm, rfl⟩ := List.mem_map.mp hx
            have := hl m ((hs3 m).mp hm)
            show m ≤ _; omega
          · intro x hx
            obtain ⟨m, hm, rfl⟩ := List.mem_map.mp hx
            exact hw _ (List.mem_of_getElem? (hat m))
          · rw [List.pairwise_map]; exact hs2
          · intro x hx
            obtain ⟨m, hm, rfl⟩ := List.mem_map.mp hx
            exact hl m ((hs3 m).mp hm)
          · intro x hx
            obtain ⟨m, hm, rfl⟩ := List.mem_map.mp hx
            exact hat m
def p_lgreat : Phi := fun ds S R => ∃ n p a b : Nat, ds = [.ref n, eN p] ∧ S[n]? = some (boxO a b) ∧ b ≤ 2147483647 ∧ p ≤ 30 ∧ ∀ P a b, p ≤ P → P ≤ 2000 → b ≤ 2147483647 → R (eN P) (S.set n (boxO a b))
theorem b_lgreat (h14 : G 14 = some p_draw) (hc : closed S) (h : p_lgreat ds S R) : evSs G cst f__law_greatest (endE S R) (startD N__law_greatest ds) S := by
  obtain ⟨n, p, a, b, rfl, hn, hb, hp, hR⟩ := h
  have out : ∀ P a b, p ≤ P → P ≤ 2000 → b ≤ 2147483647 → endP S.length R (.int (P : Nat)) (S.set n (boxO a b)) := fun P a b h1 h2 hb =>
    endP_at (by rw [List.length_set]; exact Nat.le_refl _) (closed_set hc rfl) rfl (hR P a b h1 h2 hb)
  simp only [evSs, evS, evE, evEs, evO, evT, evI, rdP, startD, asgP, wipeD, binP_add, binP_addT, binP_addF, binP_addS, binP_sub, binP_mul, binP_rep, binP_div, binP_mod, binP_pow, binP_shl, binP_shr, binP_and, cmpP_lt, cmpP_le, cmpP_gt, cmpP_ge, cmpP_eqI, cmpP_neI, biP_lenT, biP_lenF, biP_lenS, biP_abs, biP_int, biP_tupF, biP_tupT, biP_lstF, biP_lstT, biP_all, biP_any, biP_max, biP_min, biP_max2, biP_min2, walk_tup, walk_fl, seq_tup, seq_fl, boolP_bl, isi_int, isi_bl, isi_tup, isi_fl, isi_str, isi_non, cmpP_in, cmpP_nin, ixP_tup, ixP_fl, ixP_scr, Option.some.injEq, exists_eq_left', List.map_cons, List.map_nil, List.length_cons, List.length_nil, List.cons_append, List.nil_append, List.getElem?_cons_zero, List.getElem?_cons_succ, List.set_cons_zero, List.set_cons_succ, Nat.reduceAdd, Nat.reduceSub, List.replicate_succ, List.replicate_zero, List.append_nil, if_true, Bool.not_false, Bool.not_true, Bool.false_eq_true, if_false, reduceIte, last_get, last_set, f__law_greatest, N__law_greatest, h14]
  refine ⟨n, 60, a, b, rfl, hn, hb, by decide, by decide, fun r a b hr hb => ?_⟩
  simp only [evSs, evS, evE, evEs, evO, evT, evI, rdP, startD, asgP, wipeD, binP_add, binP_addT, binP_addF, binP_addS, binP_sub, binP_mul, binP_rep, binP_div, binP_mod, binP_pow, binP_shl, binP_shr, binP_and, cmpP_lt, cmpP_le, cmpP_gt, cmpP_ge, cmpP_eqI, cmpP_neI, biP_lenT, biP_lenF, biP_lenS, biP_abs, biP_int, biP_tupF, biP_tupT, biP_lstF, biP_lstT, biP_all, biP_any, biP_max, biP_min, biP_max2, biP_min2, walk_tup, walk_fl, seq_tup, seq_fl, boolP_bl, isi_int, isi_bl, isi_tup, isi_fl, isi_str, isi_non, cmpP_in, cmpP_nin, ixP_tup, ixP_fl, ixP_scr, Option.some.injEq, exists_eq_left', List.map_cons, List.map_nil, List.length_cons, List.length_nil, List.cons_append, List.nil_append, List.getElem?_cons_zero, List.getElem?_cons_succ, List.set_cons_zero, List.set_cons_succ, Nat.reduceAdd, Nat.reduceSub, List.replicate_succ, List.replicate_zero, List.append_nil, if_true, Bool.not_false, Bool.not_true, Bool.false_eq_true, if_false, reduceIte, last_get, last_set, eN]
  have e1 : ((p : Nat) : Int) + (r : Nat) = ((p + r : Nat) : Int) := by omega
  rw [e1]
  refine draw_n hn 4 hb (by decide) (by decide) fun r4 a b hr4 hb => ?_
  simp only [evSs, evS, evE, evEs, evO, evT, evI, rdP, startD, asgP, wipeD, binP_add, binP_addT, binP_addF, binP_addS, binP_sub, binP_mul, binP_rep, binP_div, binP_mod, binP_pow, binP_shl, binP_shr, binP_and, cmpP_lt, cmpP_le, cmpP_gt, cmpP_ge, cmpP_eqI, cmpP_neI, biP_lenT, biP_lenF, biP_lenS, biP_abs, biP_int, biP_tupF, biP_tupT, biP_lstF, biP_lstT, biP_all, biP_any, biP_max, biP_min, biP_max2, biP_min2, walk_tup, walk_fl, seq_tup, seq_fl, boolP_bl, isi_int, isi_bl, isi_tup, isi_fl, isi_str, isi_non, cmpP_in, cmpP_nin, ixP_tup, ixP_fl, ixP_scr, Option.some.injEq, exists_eq_left', List.map_cons, List.map_nil, List.length_cons, List.length_nil, List.cons_append, List.nil_append, List.getElem?_cons_zero, List.getElem?_cons_succ, List.set_cons_zero, List.set_cons_succ, Nat.reduceAdd, Nat.reduceSub, List.replicate_succ, List.replicate_zero, List.append_nil, if_true, Bool.not_false, Bool.not_true, Bool.false_eq_true, if_false, reduceIte, last_get, last_set, eN]
  split
  · refine draw_n hn 1900 hb (by decide) (by decide) fun r3 a b hr3 hb => ?_
    simp only [evSs, evS, evE, evEs, evO, evT, evI, rdP, startD, asgP, wipeD, binP_add, binP_addT, binP_addF, binP_addS, binP_sub, binP_mul, binP_rep, binP_div, binP_mod, binP_pow, binP_shl, binP_shr, binP_and, cmpP_lt, cmpP_le, cmpP_gt, cmpP_ge, cmpP_eqI, cmpP_neI, biP_lenT, biP_lenF, biP_lenS, biP_abs, biP_int, biP_tupF, biP_tupT, biP_lstF, biP_lstT, biP_all, biP_any, biP_max, biP_min, biP_max2, biP_min2, walk_tup, walk_fl, seq_tup, seq_fl, boolP_bl, isi_int, isi_bl, isi_tup, isi_fl, isi_str, isi_non, cmpP_in, cmpP_nin, ixP_tup, ixP_fl, ixP_scr, Option.some.injEq, exists_eq_left', List.map_cons, List.map_nil, List.length_cons, List.length_nil, List.cons_append, List.nil_append, List.getElem?_cons_zero, List.getElem?_cons_succ, List.set_cons_zero, List.set_cons_succ, Nat.reduceAdd, Nat.reduceSub, List.replicate_succ, List.replicate_zero, List.append_nil, if_true, Bool.not_false, Bool.not_true, Bool.false_eq_true, if_false, reduceIte, last_get, last_set, eN]
    have e2 : ((p + r : Nat) : Int) + (r3 : Nat) = ((p + r + r3 : Nat) : Int) := by omega
    rw [e2]
    exact out _ _ _ (by omega) (by omega) hb
  · exact out _ _ _ (by omega) (by omega) hb
def p_lwindows : Phi := fun ds S R => ∃ n a b : Nat, ds = [.ref n] ∧ S[n]? = some (boxO a b) ∧ b ≤ 2147483647 ∧ ∀ ws a b, OkW ws → (∀ w ∈ ws, w.2 ≤ 998) → b ≤ 2147483647 → R (eWs ws) (S.set n (boxO a b))
theorem b_lwindows (h14 : G 14 = some p_draw) (hc : closed S) (h : p_lwindows ds S R) : evSs G cst f__law_windows (endE S R) (startD N__law_windows ds) S := by
  obtain ⟨n, a, b, rfl, hn, hb, hR⟩ := h
  simp only [evSs, evS, evE, evEs, evO, evT, evI, rdP, startD, asgP, wipeD, binP_add, binP_addT, binP_addF, binP_addS, binP_sub, binP_mul, binP_rep, binP_div, binP_mod, binP_pow, binP_shl, binP_shr, binP_and, cmpP_lt, cmpP_le, cmpP_gt, cmpP_ge, cmpP_eqI, cmpP_neI, biP_lenT, biP_lenF, biP_lenS, biP_abs, biP_int, biP_tupF, biP_tupT, biP_lstF, biP_lstT, biP_all, biP_any, biP_max, biP_min, biP_max2, biP_min2, walk_tup, walk_fl, seq_tup, seq_fl, boolP_bl, isi_int, isi_bl, isi_tup, isi_fl, isi_str, isi_non, cmpP_in, cmpP_nin, ixP_tup, ixP_fl, ixP_scr, Option.some.injEq, exists_eq_left', List.map_cons, List.map_nil, List.length_cons, List.length_nil, List.cons_append, List.nil_append, List.getElem?_cons_zero, List.getElem?_cons_succ, List.set_cons_zero, List.set_cons_succ, Nat.reduceAdd, Nat.reduceSub, List.replicate_succ, List.replicate_zero, List.append_nil, if_true, Bool.not_false, Bool.not_true, Bool.false_eq_true, if_false, reduceIte, last_get, last_set, f__law_windows, N__law_windows, h14]
  refine ⟨size_small (by decide), ?_⟩
  have hS : S ++ [Ob.lst []] = S.set n (boxO a b) ++ [Ob.lst []] := by rw [set_same hn]
  rw [hS]
  refine draw_x hn 40 hb (by decide) (by decide) fun r a b hr hb => ?_
  simp only [evSs, evS, evE, evEs, evO, evT, evI, rdP, startD, asgP, wipeD, binP_add, binP_addT, binP_addF, binP_addS, binP_sub, binP_mul, binP_rep, binP_div, binP_mod, binP_pow, binP_shl, binP_shr, binP_and, cmpP_lt, cmpP_le, cmpP_gt, cmpP_ge, cmpP_eqI, cmpP_neI, biP_lenT, biP_lenF, biP_lenS, biP_abs, biP_int, biP_tupF, biP_tupT, biP_lstF, biP_lstT, biP_all, biP_any, biP_max, biP_min, biP_max2, biP_min2, walk_tup, walk_fl, seq_tup, seq_fl, boolP_bl, isi_int, isi_bl, isi_tup, isi_fl, isi_str, isi_non, cmpP_in, cmpP_nin, ixP_tup, ixP_fl, ixP_scr, Option.some.injEq, exists_eq_left', List.map_cons, List.map_nil, List.length_cons, List.length_nil, List.cons_append, List.nil_append, List.getElem?_cons_zero, List.getElem?_cons_succ, List.set_cons_zero, List.set_cons_succ, Nat.reduceAdd, Nat.reduceSub, List.replicate_succ, List.replicate_zero, List.append_nil, if_true, Bool.not_false, Bool.not_true, Bool.false_eq_true, if_false, reduceIte, last_get, last_set, eN]
  refine ⟨by omega, by omega, ?_⟩
  refine forP_of id (fun xs ρ S' => ∃ (ws : List Win) (a b : Nat) (x2 x3 : Option D), ws.length + xs.length = 1 + r ∧ b ≤ 2147483647 ∧ (∀ w ∈ ws, w.1 ≤ w.2 ∧ w.2 ≤ 998) ∧ S' = S.set n (boxO a b) ++ [.lst (ws.map eP)] ∧ ρ = [some (.ref n), some (.ref S.length), x2, x3]) (rgD 0 (1 + (r : Int)).toNat) (List.map_id _).symm
    ⟨[], a, b, none, none, by unfold rgD; rw [List.length_map, List.length_range, List.length_nil]; omega, hb, (fun _ z => nomatch z), rfl, rfl⟩ ?_ ?_
  · rintro x xs ρ S' ⟨ws, a, b, x2, x3, hl, hb, hw, rfl, rfl⟩
    rw [List.length_cons] at hl
    refine ⟨trivial, fun Q hQ => ?_⟩
    simp only [evSs, evS, evE, evEs, evO, evT, evI, rdP, startD, asgP, wipeD, binP_add, binP_addT, binP_addF, binP_addS, binP_sub, binP_mul, binP_rep, binP_div, binP_mod, binP_pow, binP_shl, binP_shr, binP_and, cmpP_lt, cmpP_le, cmpP_gt, cmpP_ge, cmpP_eqI, cmpP_neI, biP_lenT, biP_lenF, biP_lenS, biP_abs, biP_int, biP_tupF, biP_tupT, biP_lstF, biP_lstT, biP_all, biP_any, biP_max, biP_min, biP_max2, biP_min2, walk_tup, walk_fl, seq_tup, seq_fl, boolP_bl, isi_int, isi_bl, isi_tup, isi_fl, isi_str, isi_non, cmpP_in, cmpP_nin, ixP_tup, ixP_fl, ixP_scr, Option.some.injEq, exists_eq_left', List.map_cons, List.map_nil, List.length_cons, List.length_nil, List.cons_append, List.nil_append, List.getElem?_cons_zero, List.getElem?_cons_succ, List.set_cons_zero, List.set_cons_succ, Nat.reduceAdd, Nat.reduceSub, List.replicate_succ, List.replicate_zero, List.append_nil, if_true, Bool.not_false, Bool.not_true, Bool.false_eq_true, if_false, reduceIte, last_get, last_set]
    refine draw_x hn 900 hb (by decide) (by decide) fun lo a b hlo hb => ?_
    have hlast : ∀ a b (o : Ob), (S.set n (boxO a b) ++ [o])[S.length]? = some o := fun a b o => by
      have := last_get (S.set n (boxO a b)) o []
      rw [List.length_set] at this
      exact this
    refine ⟨_, _, rfl, hlast _ _ _, ?_⟩
    refine draw_x hn 100 hb (by decide) (by decide) fun w a b hw2 hb => ?_
    simp only [evSs, evS, evE, evEs, evO, evT, evI, rdP, startD, asgP, wipeD, binP_add, binP_addT, binP_addF, binP_addS, binP_sub, binP_mul, binP_rep, binP_div, binP_mod, binP_pow, binP_shl, binP_shr, binP_and, cmpP_lt, cmpP_le, cmpP_gt, cmpP_ge, cmpP_eqI, cmpP_neI, biP_lenT, biP_lenF, biP_lenS, biP_abs, biP_int, biP_tupF, biP_tupT, biP_lstF, biP_lstT, biP_all, biP_any, biP_max, biP_min, biP_max2, biP_min2, walk_tup, walk_fl, seq_tup, seq_fl, boolP_bl, isi_int, isi_bl, isi_tup, isi_fl, isi_str, isi_non, cmpP_in, cmpP_nin, ixP_tup, ixP_fl, ixP_scr, Option.some.injEq, exists_eq_left', List.map_cons, List.map_nil, List.length_cons, List.length_nil, List.cons_append, List.nil_append, List.getElem?_cons_zero, List.getElem?_cons_succ, List.set_cons_zero, List.set_cons_succ, Nat.reduceAdd, Nat.reduceSub, List.replicate_succ, List.replicate_zero, List.append_nil, if_true, Bool.not_false, Bool.not_true, Bool.false_eq_true, if_false, reduceIte, last_get, last_set, eN]
    refine ⟨size_small (by decide), _, hlast _ _ _, size_lt (by rw [List.length_map]; omega), ?_⟩
    have hset : ∀ o o' : Ob, (S.set n (boxO a b) ++ [o]).set S.length o' = S.set n (boxO a b) ++ [o'] := fun o o' => by
      have := last_set (S.set n (boxO a b)) o o' []
      rw [List.length_set] at this
      exact this
    rw [hset]
    refine hQ _ _ ⟨ws ++ [(lo, lo + w)], a, b, _, _, by rw [List.length_append, List.length_singleton]; omega, hb, fun v hv => ?_, by rw [List.map_append]; rfl, rfl⟩
    rcases List.mem_append.mp hv with z | z
    · exact hw v z
    · rw [List.mem_singleton.mp z]
      exact ⟨by show lo ≤ lo + w; omega, by show lo + w ≤ 998; omega⟩
  · rintro ρ S' ⟨ws, a, b, x2, x3, hl, hb, hw, rfl, rfl⟩
    rw [List.length_nil] at hl
    refine ⟨trivial, ?_⟩
    simp only [evSs, evS, evE, evEs, evO, evT, evI, rdP, startD, asgP, wipeD, binP_add, binP_addT, binP_addF, binP_addS, binP_sub, binP_mul, binP_rep, binP_div, binP_mod, binP_pow, binP_shl, binP_shr, binP_and, cmpP_lt, cmpP_le, cmpP_gt, cmpP_ge, cmpP_eqI, cmpP_neI, biP_lenT, biP_lenF, biP_lenS, biP_abs, biP_int, biP_tupF, biP_tupT, biP_lstF, biP_lstT, biP_all, biP_any, biP_max, biP_min, biP_max2, biP_min2, walk_tup, walk_fl, seq_tup, seq_fl, boolP_bl, isi_int, isi_bl, isi_tup, isi_fl, isi_str, isi_non, cmpP_in, cmpP_nin, ixP_tup, ixP_fl, ixP_scr, Option.some.injEq, exists_eq_left', List.map_cons, List.map_nil, List.length_cons, List.length_nil, List.cons_append, List.nil_append, List.getElem?_cons_zero, List.getElem?_cons_succ, List.set_cons_zero, List.set_cons_succ, Nat.reduceAdd, Nat.reduceSub, List.replicate_succ, List.replicate_zero, List.append_nil, if_true, Bool.not_false, Bool.not_true, Bool.false_eq_true, if_false, reduceIte, last_get, last_set]
    have hlast : (S.set n (boxO a b) ++ [.lst (ws.map eP)])[S.length]? = some (.lst (ws.map eP)) := by
      have := last_get (S.set n (boxO a b)) (.lst (ws.map eP)) []
      rw [List.length_set] at this
      exact this
    refine ⟨ws.map eP, by unfold seqOf; simp only [hlast], ?_⟩
    refine ⟨_, _, rfl, by rw [List.length_set]; exact Nat.le_refl _, closed_set hc rfl, below_eWs _ _, hR ws a b ⟨by omega, by omega, fun w h => (hw w h).1, fun w h => by have := (hw w h).2; omega⟩ (fun w h => (hw w h).2) hb⟩
end K13

set_option Elab.async false
set_option linter.all false
set_option maxRecDepth 100000
set_option maxHeartbeats 1000000
/-! A7: the law's own marks. -/
namespace K13
open PySem PySem.Spec PyProof.Rows L2 DL
variable {G : Nat → Option Phi} {S : Store} {R : RE} {ds : List D}
def eG (o : Option Nat) : D := eN (o.getD 2)
theorem eG_map (l : List (Option Nat)) : l.map eG = (l.map (·.getD 2)).map eN := by rw [List.map_map]; rfl
def p_lmark : Phi := fun ds S R => ∃ (b : Bl) (gs : List Nat) (mo : Int), ds = [eWs b, .fl (gs.map eN), .int mo] ∧ b.length ≤ 1000 ∧ gs.length ≤ 2000 ∧ (∀ q ∈ gs, 1 ≤ q) ∧ R (markV (says b gs mo)) S
theorem b_lmark (hc : closed S) (h : p_lmark ds S R) : evSs G cst f__law_mark (endE S R) (startD N__law_mark ds) S := by
  obtain ⟨b, gs, mo, rfl, hb, hg, hq, hR⟩ := h
  simp only [evSs, evS, evE, evEs, evO, evT, evI, rdP, startD, asgP, wipeD, binP_add, binP_addT, binP_addF, binP_addS, binP_sub, binP_mul, binP_rep, binP_div, binP_mod, binP_pow, binP_shl, binP_shr, binP_and, cmpP_lt, cmpP_le, cmpP_gt, cmpP_ge, cmpP_eqI, cmpP_neI, biP_lenT, biP_lenF, biP_lenS, biP_abs, biP_int, biP_tupF, biP_tupT, biP_lstF, biP_lstT, biP_all, biP_any, biP_max, biP_min, biP_max2, biP_min2, walk_tup, walk_fl, seq_tup, seq_fl, boolP_bl, isi_int, isi_bl, isi_tup, isi_fl, isi_str, isi_non, cmpP_in, cmpP_nin, ixP_tup, ixP_fl, ixP_scr, Option.some.injEq, exists_eq_left', List.map_cons, List.map_nil, List.length_cons, List.length_nil, List.cons_append, List.nil_append, List.getElem?_cons_zero, List.getElem?_cons_succ, List.set_cons_zero, List.set_cons_succ, Nat.reduceAdd, Nat.reduceSub, List.replicate_succ, List.replicate_zero, List.append_nil, if_true, Bool.not_false, Bool.not_true, Bool.false_eq_true, if_false, reduceIte, last_get, last_set, f__law_mark, N__law_mark]
  refine ⟨size_small (by decide), ?_⟩
  refine cmpP_eqOf (okD_flN gs _) (okD_flN [] _) (qv_fl_nil gs) ?_
  by_cases h0 : gs = []
  · rw [if_pos (decide_eq_true h0)]
    have e : markV (says b gs mo) = .str "none" := by
      rw [h0]; rfl
    rw [e] at hR
    exact endP_same (Nat.le_refl _) hc rfl hR
  · rw [if_neg (by rw [decide_eq_false h0]; decide)]
    refine ⟨size_small (by decide), ?_⟩
    refine forP_of eN (fun xs ρ S' => ∃ (c : List Nat) (x4 x5 : Option D), c ++ xs = gs ∧ S' = S ++ [.lst ((says b c mo).map eG)] ∧ ρ = [some (eWs b), some (.fl (gs.map eN)), some (.int mo), some (.ref S.length), x4, x5, none, none]) gs rfl
      ⟨[], none, none, rfl, rfl, rfl⟩ ?_ ?_
    · rintro q xs ρ S' ⟨c, x4, x5, hcs, rfl, rfl⟩
      refine ⟨fun z => z, fun Q hQ => ?_⟩
      have hq1 : 1 ≤ q := hq q (by rw [← hcs]; simp)
      have hcl : c.length ≤ 2000 := by rw [← hcs, List.length_append] at hg; omega
      have hnext : ∀ x5, Q [some (eWs b), some (.fl (gs.map eN)), some (.int mo), some (.ref S.length), some (eN q), x5, none, none] (S ++ [.lst ((says b c mo).map eG ++ [eG (resAt b q (rs mo q))])]) := fun x5 => by
        refine hQ _ _ ⟨c ++ [q], _, x5, by rw [List.append_assoc]; exact hcs, ?_, rfl⟩
        unfold says
        rw [List.map_append, List.map_append]; rfl
      simp only [evSs, evS, evE, evEs, evO, evT, evI, rdP, startD, asgP, wipeD, binP_add, binP_addT, binP_addF, binP_addS, binP_sub, binP_mul, binP_rep, binP_div, binP_mod, binP_pow, binP_shl, binP_shr, binP_and, cmpP_lt, cmpP_le, cmpP_gt, cmpP_ge, cmpP_eqI, cmpP_neI, biP_lenT, biP_lenF, biP_lenS, biP_abs, biP_int, biP_tupF, biP_tupT, biP_lstF, biP_lstT, biP_all, biP_any, biP_max, biP_min, biP_max2, biP_min2, walk_tup, walk_fl, seq_tup, seq_fl, boolP_bl, isi_int, isi_bl, isi_tup, isi_fl, isi_str, isi_non, cmpP_in, cmpP_nin, ixP_tup, ixP_fl, ixP_scr, Option.some.injEq, exists_eq_left', List.map_cons, List.map_nil, List.length_cons, List.length_nil, List.cons_append, List.nil_append, List.getElem?_cons_zero, List.getElem?_cons_succ, List.set_cons_zero, List.set_cons_succ, Nat.reduceAdd, Nat.reduceSub, List.replicate_succ, List.replicate_zero, List.append_nil, if_true, Bool.not_false, Bool.not_true, Bool.false_eq_true, if_false, reduceIte, last_get, last_set, eWs]
      refine mapP_flt eP (fun x => x.1 % q == rs mo q) (fun x => eN x.2) b rfl (fun x hx Q3 hQ3 => ?_) (fun z => z) (by omega) ?_
      · simp only [evSs, evS, evE, evEs, evO, evT, evI, rdP, startD, asgP, wipeD, binP_add, binP_addT, binP_addF, binP_addS, binP_sub, binP_mul, binP_rep, binP_div, binP_mod, binP_pow, binP_shl, binP_shr, binP_and, cmpP_lt, cmpP_le, cmpP_gt, cmpP_ge, cmpP_eqI, cmpP_neI, biP_lenT, biP_lenF, biP_lenS, biP_abs, biP_int, biP_tupF, biP_tupT, biP_lstF, biP_lstT, biP_all, biP_any, biP_max, biP_min, biP_max2, biP_min2, walk_tup, walk_fl, seq_tup, seq_fl, boolP_bl, isi_int, isi_bl, isi_tup, isi_fl, isi_str, isi_non, cmpP_in, cmpP_nin, ixP_tup, ixP_fl, ixP_scr, Option.some.injEq, exists_eq_left', List.map_cons, List.map_nil, List.length_cons, List.length_nil, List.cons_append, List.nil_append, List.getElem?_cons_zero, List.getElem?_cons_succ, List.set_cons_zero, List.set_cons_succ, Nat.reduceAdd, Nat.reduceSub, List.replicate_succ, List.replicate_zero, List.append_nil, if_true, Bool.not_false, Bool.not_true, Bool.false_eq_true, if_false, reduceIte, last_get, last_set, eP, eN]
        refine ⟨by omega, ?_⟩
        have e : decide ((((x.1 : Nat) : Int) - mo) % ((q : Nat) : Int) = 0) = (x.1 % q == rs mo q) := by
          rw [Bool.eq_iff_iff, decide_eq_true_iff, beq_iff_eq, sub_mod hq1]
        rw [e]
        cases hb2 : (x.1 % q == rs mo q) with
        | true => rw [hb2] at hQ3; exact hQ3
        | false => rw [hb2] at hQ3; exact hQ3
      · have hh := head_res (b := b) (q := q) (r := rs mo q)
        have em : ((b.filter fun x => x.1 % q == rs mo q).map fun x => eN x.2) = ((b.filter fun x => x.1 % q == rs mo q).map (·.2)).map eN := by rw [List.map_map]; rfl
        rw [em]
        have hfl : ((b.filter fun x => x.1 % q == rs mo q).map (·.2)).length ≤ 1000 := by
          rw [List.length_map]
          exact Nat.le_trans (List.length_filter_le _ _) hb
        revert hh hfl
        generalize (b.filter fun x => x.1 % q == rs mo q).map (·.2) = told
        intro hh hfl
        refine ⟨_, _, rfl, last_get _ _ _, size_small (by decide), ?_⟩
        refine cmpP_neOf (okD_flN told _) (okD_flN [] _) (qv_fl_nil told) ?_
        have hn := hnext (some (.fl (told.map eN)))
        rw [← hh] at hn
        have hln : ((says b c mo).map eG).length ≤ 1000000 := by unfold says; rw [List.length_map, List.length_map]; omega
        cases told with
        | nil =>
          rw [if_neg (by simp)]
          refine ⟨_, last_get _ _ _, size_lt hln, ?_⟩
          rw [last_set]
          exact hn
        | cons a r =>
          rw [if_pos (by simp)]
          refine ⟨eN a, at0, _, last_get _ _ _, size_lt hln, ?_⟩
          rw [last_set]
          exact hn
    · rintro ρ S' ⟨c, x4, x5, hcs, rfl, rfl⟩
      refine ⟨fun z => z, ?_⟩
      rw [List.append_nil] at hcs
      subst hcs
      have hl : (S ++ [.lst ((says b c mo).map eG)])[S.length]? = some (.lst ((says b c mo).map eG)) := last_get _ _ _
      have hne : says b c mo ≠ [] := fun z => h0 (by unfold says at z; simpa using z)
      have hln : (says b c mo).length ≤ 2000 := by unfold says; rw [List.length_map]; exact hg
      unfold markV at hR
      rw [if_neg hne] at hR
      revert hl hR hln
      generalize says b c mo = l
      intro hR hl hln
      have hrep : ∀ (v : Nat) (B : Bool → Prop), v ≠ 2 → B (decide (∀ o ∈ l, o = some v)) → cmpP (S ++ [.lst (l.map eG)]) .Eq (.ref S.length) (.fl (List.replicate (((l.map eG).length : Nat) : Int).toNat [D.int (v : Nat)]).flatten) B := fun v B hv hB => by
        have e1 : (List.replicate (((l.map eG).length : Nat) : Int).toNat [D.int (v : Nat)]).flatten = (List.replicate l.length v).map eN := by
          rw [Int.toNat_natCast, List.length_map]
          generalize l.length = n
          induction n with
          | zero => rfl
          | succ n ih => rw [List.replicate_succ, List.flatten_cons, ih]; rfl
        rw [e1]
        refine eqP_at (d' := .fl (l.map eG)) (frz1_lst hl) (frz1_ok (n := 60) (okD_flN _ _)) (by rw [eG_map]; exact okD_flN _ _) (okD_flN _ _) ?_
        rw [eG_map]
        have : qv (.fl ((l.map (·.getD 2)).map eN)) (.fl ((List.replicate l.length v).map eN)) = decide (∀ o ∈ l, o = some v) := by
          refine (qv_fL _ _).trans ?_
          rw [decide_eq_decide]
          exact rep_iff hv
        rw [this]
        exact hB
      simp only [evSs, evS, evE, evEs, evO, evT, evI, rdP, startD, asgP, wipeD, binP_add, binP_addT, binP_addF, binP_addS, binP_sub, binP_mul, binP_rep, binP_div, binP_mod, binP_pow, binP_shl, binP_shr, binP_and, cmpP_lt, cmpP_le, cmpP_gt, cmpP_ge, cmpP_eqI, cmpP_neI, biP_lenT, biP_lenF, biP_lenS, biP_abs, biP_int, biP_tupF, biP_tupT, biP_lstF, biP_lstT, biP_all, biP_any, biP_max, biP_min, biP_max2, biP_min2, walk_tup, walk_fl, seq_tup, seq_fl, boolP_bl, isi_int, isi_bl, isi_tup, isi_fl, isi_str, isi_non, cmpP_in, cmpP_nin, ixP_tup, ixP_fl, ixP_scr, Option.some.injEq, exists_eq_left', List.map_cons, List.map_nil, List.length_cons, List.length_nil, List.cons_append, List.nil_append, List.getElem?_cons_zero, List.getElem?_cons_succ, List.set_cons_zero, List.set_cons_succ, Nat.reduceAdd, Nat.reduceSub, List.replicate_succ, List.replicate_zero, List.append_nil, if_true, Bool.not_false, Bool.not_true, Bool.false_eq_true, if_false, reduceIte, last_get, last_set]
      refine ⟨size_small (by decide), biP_lenR hl ?_⟩
      simp only [evSs, evS, evE, evEs, evO, evT, evI, rdP, startD, asgP, wipeD, binP_add, binP_addT, binP_addF, binP_addS, binP_sub, binP_mul, binP_rep, binP_div, binP_mod, binP_pow, binP_shl, binP_shr, binP_and, cmpP_lt, cmpP_le, cmpP_gt, cmpP_ge, cmpP_eqI, cmpP_neI, biP_lenT, biP_lenF, biP_lenS, biP_abs, biP_int, biP_tupF, biP_tupT, biP_lstF, biP_lstT, biP_all, biP_any, biP_max, biP_min, biP_max2, biP_min2, walk_tup, walk_fl, seq_tup, seq_fl, boolP_bl, isi_int, isi_bl, isi_tup, isi_fl, isi_str, isi_non, cmpP_in, cmpP_nin, ixP_tup, ixP_fl, ixP_scr, Option.some.injEq, exists_eq_left', List.map_cons, List.map_nil, List.length_cons, List.length_nil, List.cons_append, List.nil_append, List.getElem?_cons_zero, List.getElem?_cons_succ, List.set_cons_zero, List.set_cons_succ, Nat.reduceAdd, Nat.reduceSub, List.replicate_succ, List.replicate_zero, List.append_nil, if_true, Bool.not_false, Bool.not_true, Bool.false_eq_true, if_false, reduceIte, last_get, last_set]
      refine ⟨by omega, by rw [List.length_map]; omega, size_small (by rw [List.length_map]; omega), hrep 1 _ (by decide) ?_⟩
      by_cases a1 : ∀ o ∈ l, o = some 1
      · rw [if_pos (decide_eq_true a1)]
        rw [if_pos a1] at hR
        exact endP_drop (Nat.le_refl _) hc rfl hR
      · rw [if_neg (by rw [decide_eq_false a1]; decide)]
        rw [if_neg a1] at hR
        refine ⟨size_small (by decide), biP_lenR hl ?_⟩
        simp only [evSs, evS, evE, evEs, evO, evT, evI, rdP, startD, asgP, wipeD, binP_add, binP_addT, binP_addF, binP_addS, binP_sub, binP_mul, binP_rep, binP_div, binP_mod, binP_pow, binP_shl, binP_shr, binP_and, cmpP_lt, cmpP_le, cmpP_gt, cmpP_ge, cmpP_eqI, cmpP_neI, biP_lenT, biP_lenF, biP_lenS, biP_abs, biP_int, biP_tupF, biP_tupT, biP_lstF, biP_lstT, biP_all, biP_any, biP_max, biP_min, biP_max2, biP_min2, walk_tup, walk_fl, seq_tup, seq_fl, boolP_bl, isi_int, isi_bl, isi_tup, isi_fl, isi_str, isi_non, cmpP_in, cmpP_nin, ixP_tup, ixP_fl, ixP_scr, Option.some.injEq, exists_eq_left', List.map_cons, List.map_nil, List.length_cons, List.length_nil, List.cons_append, List.nil_append, List.getElem?_cons_zero, List.getElem?_cons_succ, List.set_cons_zero, List.set_cons_succ, Nat.reduceAdd, Nat.reduceSub, List.replicate_succ, List.replicate_zero, List.append_nil, if_true, Bool.not_false, Bool.not_true, Bool.false_eq_true, if_false, reduceIte, last_get, last_set]
        refine ⟨by omega, by rw [List.length_map]; omega, size_small (by rw [List.length_map]; omega), hrep 0 _ (by decide) ?_⟩
        by_cases a0 : ∀ o ∈ l, o = some 0
        · rw [if_pos (decide_eq_true a0)]
          rw [if_pos a0] at hR
          exact endP_drop (Nat.le_refl _) hc rfl hR
        · rw [if_neg (by rw [decide_eq_false a0]; decide)]
          rw [if_neg a0] at hR
          exact endP_drop (Nat.le_refl _) hc rfl hR
/-! ### what is told -/
def p_ltp : Phi := fun ds S R => ∃ (b : Bl) (P : Nat), ds = [eWs b, eN P] ∧ OkB b ∧ 1 ≤ P ∧ P ≤ 2000 ∧ R (.tup [.int 0, eL (goods b P)]) S
theorem goods_small {b : Bl} {P : Nat} (h : P ≤ 2000) : (goods b P).length ≤ 1000000 := by have := goods_len b P; omega
theorem b_ltp (h10 : G 10 = some p_periods) (h15 : G 15 = some (p_read 3)) (hc : closed S) (h : p_ltp ds S R) : evSs G cst f__law_told_periods (endE S R) (startD N__law_told_periods ds) S := by
  obtain ⟨b, P, rfl, ok, h1, h2, hR⟩ := h
  simp only [evSs, evS, evE, evEs, evO, evT, evI, rdP, startD, asgP, wipeD, binP_add, binP_addT, binP_addF, binP_addS, binP_sub, binP_mul, binP_rep, binP_div, binP_mod, binP_pow, binP_shl, binP_shr, binP_and, cmpP_lt, cmpP_le, cmpP_gt, cmpP_ge, cmpP_eqI, cmpP_neI, biP_lenT, biP_lenF, biP_lenS, biP_abs, biP_int, biP_tupF, biP_tupT, biP_lstF, biP_lstT, biP_all, biP_any, biP_max, biP_min, biP_max2, biP_min2, walk_tup, walk_fl, seq_tup, seq_fl, boolP_bl, isi_int, isi_bl, isi_tup, isi_fl, isi_str, isi_non, cmpP_in, cmpP_nin, ixP_tup, ixP_fl, ixP_scr, Option.some.injEq, exists_eq_left', List.map_cons, List.map_nil, List.length_cons, List.length_nil, List.cons_append, List.nil_append, List.getElem?_cons_zero, List.getElem?_cons_succ, List.set_cons_zero, List.set_cons_succ, Nat.reduceAdd, Nat.reduceSub, List.replicate_succ, List.replicate_zero, List.append_nil, if_true, Bool.not_false, Bool.not_true, Bool.false_eq_true, if_false, reduceIte, last_get, last_set, f__law_told_periods, N__law_told_periods, h10, h15]
  refine ⟨b, P, rfl, ok, h1, h2, ?_⟩
  refine ⟨_, rfl, okR_eL (goods_small h2) _, ?_⟩
  refine endP_same (Nat.le_refl _) hc ?_ hR
  simp only [below, belows, below_eL, Bool.and_self]
def p_lfar : Phi := fun ds S R => ∃ (b : Bl) (p : Nat), ds = [eWs b, eN p] ∧ OkB b ∧ (∀ x ∈ b, x.1 < 9000) ∧ R (.bl true) S
theorem b_lfar (h8 : G 8 = some p_fits) (h15 : G 15 = some (p_read 3)) (hc : closed S) (h : p_lfar ds S R) : evSs G cst f__law_far_right (endE S R) (startD N__law_far_right ds) S := by
  obtain ⟨b, p, rfl, ok, hlt, hR⟩ := h
  have nm := ok.nm
  have n1 := ok.n1
  have hg0 : b[0]? = some b[0] := List.getElem?_eq_getElem (by omega)
  have hm0 : b[0] ∈ b := List.getElem_mem _
  generalize b[0] = z at hg0 hm0
  have fin : endP S.length R (.bl true) S := endP_same (Nat.le_refl _) hc rfl hR
  have hlast : evSs G cst (.cons (.ret (.cmp .Eq (.told 15 (.call 8 (.cons (.v 0) (.cons (.bin .Add (.bin .Pow (.int 10) (.int 12)) (.v 1)) .nil)))) (.tup (.cons (.int 0) (.cons (.bl true) .nil))))) .nil) (endE S R) [some (eWs b), some (eN p), some (.fl ((b.filter fun x => x.2 != z.2).map fun x => D.int ((x.1 : Int) - (z.1 : Int)))), none] S := by
    simp only [evSs, evS, evE, evEs, evO, evT, evI, rdP, startD, asgP, wipeD, binP_add, binP_addT, binP_addF, binP_addS, binP_sub, binP_mul, binP_rep, binP_div, binP_mod, binP_pow, binP_shl, binP_shr, binP_and, cmpP_lt, cmpP_le, cmpP_gt, cmpP_ge, cmpP_eqI, cmpP_neI, biP_lenT, biP_lenF, biP_lenS, biP_abs, biP_int, biP_tupF, biP_tupT, biP_lstF, biP_lstT, biP_all, biP_any, biP_max, biP_min, biP_max2, biP_min2, walk_tup, walk_fl, seq_tup, seq_fl, boolP_bl, isi_int, isi_bl, isi_tup, isi_fl, isi_str, isi_non, cmpP_in, cmpP_nin, ixP_tup, ixP_fl, ixP_scr, Option.some.injEq, exists_eq_left', List.map_cons, List.map_nil, List.length_cons, List.length_nil, List.cons_append, List.nil_append, List.getElem?_cons_zero, List.getElem?_cons_succ, List.set_cons_zero, List.set_cons_succ, Nat.reduceAdd, Nat.reduceSub, List.replicate_succ, List.replicate_zero, List.append_nil, if_true, Bool.not_false, Bool.not_true, Bool.false_eq_true, if_false, reduceIte, last_get, last_set, h8, h15]
    refine ⟨⟨by decide, by decide, by decide⟩, ?_⟩
    simp only [evSs, evS, evE, evEs, evO, evT, evI, rdP, startD, asgP, wipeD, binP_add, binP_addT, binP_addF, binP_addS, binP_sub, binP_mul, binP_rep, binP_div, binP_mod, binP_pow, binP_shl, binP_shr, binP_and, cmpP_lt, cmpP_le, cmpP_gt, cmpP_ge, cmpP_eqI, cmpP_neI, biP_lenT, biP_lenF, biP_lenS, biP_abs, biP_int, biP_tupF, biP_tupT, biP_lstF, biP_lstT, biP_all, biP_any, biP_max, biP_min, biP_max2, biP_min2, walk_tup, walk_fl, seq_tup, seq_fl, boolP_bl, isi_int, isi_bl, isi_tup, isi_fl, isi_str, isi_non, cmpP_in, cmpP_nin, ixP_tup, ixP_fl, ixP_scr, Option.some.injEq, exists_eq_left', List.map_cons, List.map_nil, List.length_cons, List.length_nil, List.cons_append, List.nil_append, List.getElem?_cons_zero, List.getElem?_cons_succ, List.set_cons_zero, List.set_cons_succ, Nat.reduceAdd, Nat.reduceSub, List.replicate_succ, List.replicate_zero, List.append_nil, if_true, Bool.not_false, Bool.not_true, Bool.false_eq_true, if_false, reduceIte, last_get, last_set, eN]
    have e : (10 : Int) ^ (12 : Int).toNat + (p : Nat) = ((10 ^ 12 + p : Nat) : Int) := by
      show (1000000000000 : Int) + (p : Nat) = _
      omega
    rw [e]
    refine ⟨b, 10 ^ 12 + p, rfl, ok, by omega, ?_⟩
    rw [far_fit (fun x hx => by have := hlt x hx; omega) ok.inc]
    refine ⟨_, rfl, okR_bl _ _, size_small (by decide), ?_⟩
    exact cmpP_eqOf (okD_pair' (okD_bl _ _)) (okD_pair' (okD_bl _ _)) (qv_self _ _ (okD_pair' (okD_bl _ _))) fin
  simp only [evSs, evS, evE, evEs, evO, evT, evI, rdP, startD, asgP, wipeD, binP_add, binP_addT, binP_addF, binP_addS, binP_sub, binP_mul, binP_rep, binP_div, binP_mod, binP_pow, binP_shl, binP_shr, binP_and, cmpP_lt, cmpP_le, cmpP_gt, cmpP_ge, cmpP_eqI, cmpP_neI, biP_lenT, biP_lenF, biP_lenS, biP_abs, biP_int, biP_tupF, biP_tupT, biP_lstF, biP_lstT, biP_all, biP_any, biP_max, biP_min, biP_max2, biP_min2, walk_tup, walk_fl, seq_tup, seq_fl, boolP_bl, isi_int, isi_bl, isi_tup, isi_fl, isi_str, isi_non, cmpP_in, cmpP_nin, ixP_tup, ixP_fl, ixP_scr, Option.some.injEq, exists_eq_left', List.map_cons, List.map_nil, List.length_cons, List.length_nil, List.cons_append, List.nil_append, List.getElem?_cons_zero, List.getElem?_cons_succ, List.set_cons_zero, List.set_cons_succ, Nat.reduceAdd, Nat.reduceSub, List.replicate_succ, List.replicate_zero, List.append_nil, if_true, Bool.not_false, Bool.not_true, Bool.false_eq_true, if_false, reduceIte, last_get, last_set, f__law_far_right, N__law_far_right, eWs, h8, h15]
  refine mapP_flt eP (fun x => x.2 != z.2) (fun x => D.int ((x.1 : Int) - (z.1 : Int))) b rfl (fun x hx Q hQ => ?_) (fun z => z) (by omega) ?_
  · simp only [evSs, evS, evE, evEs, evO, evT, evI, rdP, startD, asgP, wipeD, binP_add, binP_addT, binP_addF, binP_addS, binP_sub, binP_mul, binP_rep, binP_div, binP_mod, binP_pow, binP_shl, binP_shr, binP_and, cmpP_lt, cmpP_le, cmpP_gt, cmpP_ge, cmpP_eqI, cmpP_neI, biP_lenT, biP_lenF, biP_lenS, biP_abs, biP_int, biP_tupF, biP_tupT, biP_lstF, biP_lstT, biP_all, biP_any, biP_max, biP_min, biP_max2, biP_min2, walk_tup, walk_fl, seq_tup, seq_fl, boolP_bl, isi_int, isi_bl, isi_tup, isi_fl, isi_str, isi_non, cmpP_in, cmpP_nin, ixP_tup, ixP_fl, ixP_scr, Option.some.injEq, exists_eq_left', List.map_cons, List.map_nil, List.length_cons, List.length_nil, List.cons_append, List.nil_append, List.getElem?_cons_zero, List.getElem?_cons_succ, List.set_cons_zero, List.set_cons_succ, Nat.reduceAdd, Nat.reduceSub, List.replicate_succ, List.replicate_zero, List.append_nil, if_true, Bool.not_false, Bool.not_true, Bool.false_eq_true, if_false, reduceIte, last_get, last_set, eP]
    refine ⟨_, at1, _, atM hg0, ?_⟩
    simp only [evSs, evS, evE, evEs, evO, evT, evI, rdP, startD, asgP, wipeD, binP_add, binP_addT, binP_addF, binP_addS, binP_sub, binP_mul, binP_rep, binP_div, binP_mod, binP_pow, binP_shl, binP_shr, binP_and, cmpP_lt, cmpP_le, cmpP_gt, cmpP_ge, cmpP_eqI, cmpP_neI, biP_lenT, biP_lenF, biP_lenS, biP_abs, biP_int, biP_tupF, biP_tupT, biP_lstF, biP_lstT, biP_all, biP_any, biP_max, biP_min, biP_max2, biP_min2, walk_tup, walk_fl, seq_tup, seq_fl, boolP_bl, isi_int, isi_bl, isi_tup, isi_fl, isi_str, isi_non, cmpP_in, cmpP_nin, ixP_tup, ixP_fl, ixP_scr, Option.some.injEq, exists_eq_left', List.map_cons, List.map_nil, List.length_cons, List.length_nil, List.cons_append, List.nil_append, List.getElem?_cons_zero, List.getElem?_cons_succ, List.set_cons_zero, List.set_cons_succ, Nat.reduceAdd, Nat.reduceSub, List.replicate_succ, List.replicate_zero, List.append_nil, if_true, Bool.not_false, Bool.not_true, Bool.false_eq_true, if_false, reduceIte, last_get, last_set, eP]
    refine ⟨_, at1, ?_⟩
    simp only [evSs, evS, evE, evEs, evO, evT, evI, rdP, startD, asgP, wipeD, binP_add, binP_addT, binP_addF, binP_addS, binP_sub, binP_mul, binP_rep, binP_div, binP_mod, binP_pow, binP_shl, binP_shr, binP_and, cmpP_lt, cmpP_le, cmpP_gt, cmpP_ge, cmpP_eqI, cmpP_neI, biP_lenT, biP_lenF, biP_lenS, biP_abs, biP_int, biP_tupF, biP_tupT, biP_lstF, biP_lstT, biP_all, biP_any, biP_max, biP_min, biP_max2, biP_min2, walk_tup, walk_fl, seq_tup, seq_fl, boolP_bl, isi_int, isi_bl, isi_tup, isi_fl, isi_str, isi_non, cmpP_in, cmpP_nin, ixP_tup, ixP_fl, ixP_scr, Option.some.injEq, exists_eq_left', List.map_cons, List.map_nil, List.length_cons, List.length_nil, List.cons_append, List.nil_append, List.getElem?_cons_zero, List.getElem?_cons_succ, List.set_cons_zero, List.set_cons_succ, Nat.reduceAdd, Nat.reduceSub, List.replicate_succ, List.replicate_zero, List.append_nil, if_true, Bool.not_false, Bool.not_true, Bool.false_eq_true, if_false, reduceIte, last_get, last_set, eN]
    have e : (!decide (((x.2 : Nat) : Int) = ((z.2 : Nat) : Int))) = (x.2 != z.2) := by
      rw [Bool.eq_iff_iff, Bool.not_eq_true', decide_eq_false_iff_not, bne_iff_ne]; omega
    rw [e]
    cases hb : (x.2 != z.2) with
    | false => rw [hb] at hQ; exact hQ
    | true =>
      rw [hb] at hQ
      refine ⟨_, at0, _, atM hg0, ?_⟩
      simp only [evSs, evS, evE, evEs, evO, evT, evI, rdP, startD, asgP, wipeD, binP_add, binP_addT, binP_addF, binP_addS, binP_sub, binP_mul, binP_rep, binP_div, binP_mod, binP_pow, binP_shl, binP_shr, binP_and, cmpP_lt, cmpP_le, cmpP_gt, cmpP_ge, cmpP_eqI, cmpP_neI, biP_lenT, biP_lenF, biP_lenS, biP_abs, biP_int, biP_tupF, biP_tupT, biP_lstF, biP_lstT, biP_all, biP_any, biP_max, biP_min, biP_max2, biP_min2, walk_tup, walk_fl, seq_tup, seq_fl, boolP_bl, isi_int, isi_bl, isi_tup, isi_fl, isi_str, isi_non, cmpP_in, cmpP_nin, ixP_tup, ixP_fl, ixP_scr, Option.some.injEq, exists_eq_left', List.map_cons, List.map_nil, List.length_cons, List.length_nil, List.cons_append, List.nil_append, List.getElem?_cons_zero, List.getElem?_cons_succ, List.set_cons_zero, List.set_cons_succ, Nat.reduceAdd, Nat.reduceSub, List.replicate_succ, List.replicate_zero, List.append_nil, if_true, Bool.not_false, Bool.not_true, Bool.false_eq_true, if_false, reduceIte, last_get, last_set, eP]
      refine ⟨_, at0, ?_⟩
      exact hQ
  · refine ⟨size_small (by decide), ?_⟩
    have hok : okD (.fl ((b.filter fun x => x.2 != z.2).map fun x => D.int ((x.1 : Int) - (z.1 : Int)))) 60 = true := by
      simp only [okD]
      rw [okDs_map (fun _ => by simp only [okD])]
      rfl
    have hq : qv (.fl ((b.filter fun x => x.2 != z.2).map fun x => D.int ((x.1 : Int) - (z.1 : Int)))) (.fl []) = decide (b.filter (fun x => x.2 != z.2) = []) := by
      cases b.filter fun x => x.2 != z.2 with
      | nil => rfl
      | cons a r => rfl
    refine cmpP_neOf hok (okD_flN [] _) hq ?_
    revert hlast
    have hmf : ∀ x ∈ b.filter (fun x => x.2 != z.2), x ∈ b ∧ x.2 ≠ z.2 := fun x hx => by
      rw [List.mem_filter, bne_iff_ne] at hx
      exact hx
    revert hmf
    generalize b.filter (fun x => x.2 != z.2) = f
    intro hmf hlast
    simp only [evSs, evS, evE, evEs, evO, evT, evI, rdP, startD, asgP, wipeD, binP_add, binP_addT, binP_addF, binP_addS, binP_sub, binP_mul, binP_rep, binP_div, binP_mod, binP_pow, binP_shl, binP_shr, binP_and, cmpP_lt, cmpP_le, cmpP_gt, cmpP_ge, cmpP_eqI, cmpP_neI, biP_lenT, biP_lenF, biP_lenS, biP_abs, biP_int, biP_tupF, biP_tupT, biP_lstF, biP_lstT, biP_all, biP_any, biP_max, biP_min, biP_max2, biP_min2, walk_tup, walk_fl, seq_tup, seq_fl, boolP_bl, isi_int, isi_bl, isi_tup, isi_fl, isi_str, isi_non, cmpP_in, cmpP_nin, ixP_tup, ixP_fl, ixP_scr, Option.some.injEq, exists_eq_left', List.map_cons, List.map_nil, List.length_cons, List.length_nil, List.cons_append, List.nil_append, List.getElem?_cons_zero, List.getElem?_cons_succ, List.set_cons_zero, List.set_cons_succ, Nat.reduceAdd, Nat.reduceSub, List.replicate_succ, List.replicate_zero, List.append_nil, if_true, Bool.not_false, Bool.not_true, Bool.false_eq_true, if_false, reduceIte, last_get, last_set, h8, h15, eWs] at hlast
    by_cases h0 : f = []
    · rw [if_neg (by rw [decide_eq_true h0]; decide)]
      exact hlast
    · rw [if_pos (by rw [decide_eq_false h0]; decide)]
      have e : f = f.dropLast ++ [f.getLast h0] := (List.dropLast_concat_getLast _).symm
      have e3 : (f.map fun x => D.int ((x.1 : Int) - (z.1 : Int))) = (f.dropLast.map fun x => D.int ((x.1 : Int) - (z.1 : Int))) ++ [D.int (((f.getLast h0).1 : Int) - (z.1 : Int))] := by
        conv => lhs; rw [e]
        rw [List.map_append]; rfl
      obtain ⟨hx1, hx2⟩ := hmf _ (List.getLast_mem h0)
      refine ⟨_, by rw [e3]; exact L2.atI_last _ _, ?_⟩
      generalize f.getLast h0 = x at hx1 hx2
      have hzx : z.1 < x.1 := by
        obtain ⟨i, hi, rfl⟩ := List.getElem_of_mem hx1
        obtain ⟨h0', e0⟩ := List.getElem?_eq_some_iff.mp hg0
        have : i ≠ 0 := fun e => by subst e; exact hx2 (by rw [e0])
        rw [← e0]
        exact List.pairwise_iff_getElem.mp ok.inc 0 i h0' hi (by omega)
      have ei : ((x.1 : Nat) : Int) - (z.1 : Int) = ((x.1 - z.1 : Nat) : Int) := by omega
      rw [ei]
      refine ⟨b, x.1 - z.1, rfl, ok, by omega, ?_⟩
      rw [unlike_not hx1 hm0 hx2 hzx]
      refine ⟨_, rfl, okR_bl _ _, size_small (by decide), ?_⟩
      refine told_same (okD_bl _ _) ?_
      rw [if_neg (by decide)]
      exact hlast
end K13

set_option Elab.async false
set_option linter.all false
set_option maxRecDepth 100000
set_option maxHeartbeats 1000000
/-! A8: the law, blinks. -/
namespace K13
open PySem PySem.Spec PyProof.Rows L2 DL
variable {G : Nat → Option Phi} {S : Store} {R : RE} {ds : List D}

structure HG (G : Nat → Option Phi) : Prop where
  stream : G 13 = some p_stream
  draw : G 14 = some p_draw
  read : G 15 = some (p_read 3)
  lblinks : G 22 = some p_lblinks
  lgreat : G 23 = some p_lgreat
  lfar : G 24 = some p_lfar
  lmark : G 25 = some p_lmark
  lwindows : G 26 = some p_lwindows
  ltp : G 27 = some p_ltp
  fits : G 8 = some p_fits
  periods : G 10 = some p_periods
  mark : G 11 = some p_mark
  frames : G 4 = some p_frames
  apart : G 5 = some p_apart
theorem draw_e {a b : Nat} {ex : Store} (h : Nat) (hb : b ≤ 2147483647) (h0 : 0 < h) (h1 : h ≤ 1000000) (k : ∀ r a b, r < h → b ≤ 2147483647 → R (eN r) (S ++ boxO a b :: ex)) : p_draw [.ref S.length, eN h] (S ++ boxO a b :: ex) R :=
  ⟨S.length, h, a, b, rfl, last_get _ _ _, hb, h0, h1, fun r a b hr hb => by rw [last_set]; exact k r a b hr hb⟩
/-- what was told: no error, numbers -/
def gd (l : List Nat) : D := .tup [.int 0, eL l]
theorem okD_gd (l : List Nat) : okD (gd l) 60 = true := okD_pair' (okD_eL _ _)
variable {ns : List Int} {bl : Bl} {p P : Nat} {word : List Nat} {a b : Nat} {ex : Store}
variable {x7 x8 x9 x10 x11 x12 x13 x14 x15 x16 x17 x18 x19 x20 x21 x22 x23 x24 x25 x26 x27 x28 x29 x30 x31 x32 x33 x34 x35 : Option D}
theorem lawA (h : HG G) (k : ∀ (bl : Bl) (p P : Nat) (word : List Nat) a b, DrB bl p word → p ≤ P → P ≤ 2000 → b ≤ 2147483647 → evSs G cst t_law_7 (endE S R) (some (.scr ns) :: some (.ref S.length) :: some (eN p) :: some (.fl (word.map eN)) :: some (eWs bl) :: some (eN P) :: some (gd (goods bl P)) :: none :: none :: none :: none :: none :: none :: none :: none :: none :: none :: none :: none :: none :: none :: none :: none :: none :: none :: none :: none :: none :: none :: none :: none :: none :: none :: none :: none :: none :: []) (S ++ [boxO a b])) :
    evSs G cst f_law (endE S R) (startD N_law [.scr ns]) S := by
  simp only [evSs, evS, evE, evEs, evO, evT, evI, rdP, startD, asgP, wipeD, binP_add, binP_addT, binP_addF, binP_addS, binP_sub, binP_mul, binP_rep, binP_div, binP_mod, binP_pow, binP_shl, binP_shr, binP_and, cmpP_lt, cmpP_le, cmpP_gt, cmpP_ge, cmpP_eqI, cmpP_neI, biP_lenT, biP_lenF, biP_lenS, biP_abs, biP_int, biP_tupF, biP_tupT, biP_lstF, biP_lstT, biP_all, biP_any, biP_max, biP_min, biP_max2, biP_min2, walk_tup, walk_fl, seq_tup, seq_fl, boolP_bl, isi_int, isi_bl, isi_tup, isi_fl, isi_str, isi_non, cmpP_in, cmpP_nin, ixP_tup, ixP_fl, ixP_scr, Option.some.injEq, exists_eq_left', List.map_cons, List.map_nil, List.length_cons, List.length_nil, List.cons_append, List.nil_append, List.getElem?_cons_zero, List.getElem?_cons_succ, List.set_cons_zero, List.set_cons_succ, Nat.reduceAdd, Nat.reduceSub, List.replicate_succ, List.replicate_zero, List.append_nil, if_true, Bool.not_false, Bool.not_true, Bool.false_eq_true, if_false, reduceIte, last_get, last_set, f_law, N_law, t_law_0, h.stream]
  refine ⟨ns, 0, rfl, fun a b hb => ?_⟩
  simp only [evSs, evS, evE, evEs, evO, evT, evI, rdP, startD, asgP, wipeD, binP_add, binP_addT, binP_addF, binP_addS, binP_sub, binP_mul, binP_rep, binP_div, binP_mod, binP_pow, binP_shl, binP_shr, binP_and, cmpP_lt, cmpP_le, cmpP_gt, cmpP_ge, cmpP_eqI, cmpP_neI, biP_lenT, biP_lenF, biP_lenS, biP_abs, biP_int, biP_tupF, biP_tupT, biP_lstF, biP_lstT, biP_all, biP_any, biP_max, biP_min, biP_max2, biP_min2, walk_tup, walk_fl, seq_tup, seq_fl, boolP_bl, isi_int, isi_bl, isi_tup, isi_fl, isi_str, isi_non, cmpP_in, cmpP_nin, ixP_tup, ixP_fl, ixP_scr, Option.some.injEq, exists_eq_left', List.map_cons, List.map_nil, List.length_cons, List.length_nil, List.cons_append, List.nil_append, List.getElem?_cons_zero, List.getElem?_cons_succ, List.set_cons_zero, List.set_cons_succ, Nat.reduceAdd, Nat.reduceSub, List.replicate_succ, List.replicate_zero, List.append_nil, if_true, Bool.not_false, Bool.not_true, Bool.false_eq_true, if_false, reduceIte, last_get, last_set, t_law_1, h.lblinks]
  refine ⟨S.length, a, b, rfl, last_get _ _ _, hb, fun bl p word a b dr hb => ?_⟩
  rw [last_set]
  simp only [evSs, evS, evE, evEs, evO, evT, evI, rdP, startD, asgP, wipeD, binP_add, binP_addT, binP_addF, binP_addS, binP_sub, binP_mul, binP_rep, binP_div, binP_mod, binP_pow, binP_shl, binP_shr, binP_and, cmpP_lt, cmpP_le, cmpP_gt, cmpP_ge, cmpP_eqI, cmpP_neI, biP_lenT, biP_lenF, biP_lenS, biP_abs, biP_int, biP_tupF, biP_tupT, biP_lstF, biP_lstT, biP_all, biP_any, biP_max, biP_min, biP_max2, biP_min2, walk_tup, walk_fl, seq_tup, seq_fl, boolP_bl, isi_int, isi_bl, isi_tup, isi_fl, isi_str, isi_non, cmpP_in, cmpP_nin, ixP_tup, ixP_fl, ixP_scr, Option.some.injEq, exists_eq_left', List.map_cons, List.map_nil, List.length_cons, List.length_nil, List.cons_append, List.nil_append, List.getElem?_cons_zero, List.getElem?_cons_succ, List.set_cons_zero, List.set_cons_succ, Nat.reduceAdd, Nat.reduceSub, List.replicate_succ, List.replicate_zero, List.append_nil, if_true, Bool.not_false, Bool.not_true, Bool.false_eq_true, if_false, reduceIte, last_get, last_set, t_law_2, h.fits, h.read]
  refine ⟨bl, p, rfl, dr.ok, dr.p1, ?_⟩
  rw [dr.fit]
  refine ⟨_, rfl, okR_bl _ _, size_small (by decide), ?_⟩
  refine told_same (okD_bl _ _) ?_
  rw [if_neg (by decide)]
  simp only [evSs, evS, evE, evEs, evO, evT, evI, rdP, startD, asgP, wipeD, binP_add, binP_addT, binP_addF, binP_addS, binP_sub, binP_mul, binP_rep, binP_div, binP_mod, binP_pow, binP_shl, binP_shr, binP_and, cmpP_lt, cmpP_le, cmpP_gt, cmpP_ge, cmpP_eqI, cmpP_neI, biP_lenT, biP_lenF, biP_lenS, biP_abs, biP_int, biP_tupF, biP_tupT, biP_lstF, biP_lstT, biP_all, biP_any, biP_max, biP_min, biP_max2, biP_min2, walk_tup, walk_fl, seq_tup, seq_fl, boolP_bl, isi_int, isi_bl, isi_tup, isi_fl, isi_str, isi_non, cmpP_in, cmpP_nin, ixP_tup, ixP_fl, ixP_scr, Option.some.injEq, exists_eq_left', List.map_cons, List.map_nil, List.length_cons, List.length_nil, List.cons_append, List.nil_append, List.getElem?_cons_zero, List.getElem?_cons_succ, List.set_cons_zero, List.set_cons_succ, Nat.reduceAdd, Nat.reduceSub, List.replicate_succ, List.replicate_zero, List.append_nil, if_true, Bool.not_false, Bool.not_true, Bool.false_eq_true, if_false, reduceIte, last_get, last_set, t_law_3, h.lgreat]
  refine ⟨S.length, p, a, b, rfl, last_get _ _ _, hb, dr.pm, fun P a b hp1 hp2 hb => ?_⟩
  rw [last_set]
  simp only [evSs, evS, evE, evEs, evO, evT, evI, rdP, startD, asgP, wipeD, binP_add, binP_addT, binP_addF, binP_addS, binP_sub, binP_mul, binP_rep, binP_div, binP_mod, binP_pow, binP_shl, binP_shr, binP_and, cmpP_lt, cmpP_le, cmpP_gt, cmpP_ge, cmpP_eqI, cmpP_neI, biP_lenT, biP_lenF, biP_lenS, biP_abs, biP_int, biP_tupF, biP_tupT, biP_lstF, biP_lstT, biP_all, biP_any, biP_max, biP_min, biP_max2, biP_min2, walk_tup, walk_fl, seq_tup, seq_fl, boolP_bl, isi_int, isi_bl, isi_tup, isi_fl, isi_str, isi_non, cmpP_in, cmpP_nin, ixP_tup, ixP_fl, ixP_scr, Option.some.injEq, exists_eq_left', List.map_cons, List.map_nil, List.length_cons, List.length_nil, List.cons_append, List.nil_append, List.getElem?_cons_zero, List.getElem?_cons_succ, List.set_cons_zero, List.set_cons_succ, Nat.reduceAdd, Nat.reduceSub, List.replicate_succ, List.replicate_zero, List.append_nil, if_true, Bool.not_false, Bool.not_true, Bool.false_eq_true, if_false, reduceIte, last_get, last_set, t_law_4, h.lfar]
  refine ⟨bl, p, rfl, dr.ok, dr.lt, ?_⟩
  change boolP (.bl true) _
  rw [boolP_bl, if_neg (by decide)]
  simp only [evSs, evS, evE, evEs, evO, evT, evI, rdP, startD, asgP, wipeD, binP_add, binP_addT, binP_addF, binP_addS, binP_sub, binP_mul, binP_rep, binP_div, binP_mod, binP_pow, binP_shl, binP_shr, binP_and, cmpP_lt, cmpP_le, cmpP_gt, cmpP_ge, cmpP_eqI, cmpP_neI, biP_lenT, biP_lenF, biP_lenS, biP_abs, biP_int, biP_tupF, biP_tupT, biP_lstF, biP_lstT, biP_all, biP_any, biP_max, biP_min, biP_max2, biP_min2, walk_tup, walk_fl, seq_tup, seq_fl, boolP_bl, isi_int, isi_bl, isi_tup, isi_fl, isi_str, isi_non, cmpP_in, cmpP_nin, ixP_tup, ixP_fl, ixP_scr, Option.some.injEq, exists_eq_left', List.map_cons, List.map_nil, List.length_cons, List.length_nil, List.cons_append, List.nil_append, List.getElem?_cons_zero, List.getElem?_cons_succ, List.set_cons_zero, List.set_cons_succ, Nat.reduceAdd, Nat.reduceSub, List.replicate_succ, List.replicate_zero, List.append_nil, if_true, Bool.not_false, Bool.not_true, Bool.false_eq_true, if_false, reduceIte, last_get, last_set, t_law_5, h.periods, h.read]
  have hP1 : 1 ≤ P := by have := dr.p1; omega
  have hgl := goods_len bl P
  refine ⟨bl, P, rfl, dr.ok, hP1, hp2, _, rfl, okR_eL (goods_small hp2) _, ?_⟩
  simp only [evSs, evS, evE, evEs, evO, evT, evI, rdP, startD, asgP, wipeD, binP_add, binP_addT, binP_addF, binP_addS, binP_sub, binP_mul, binP_rep, binP_div, binP_mod, binP_pow, binP_shl, binP_shr, binP_and, cmpP_lt, cmpP_le, cmpP_gt, cmpP_ge, cmpP_eqI, cmpP_neI, biP_lenT, biP_lenF, biP_lenS, biP_abs, biP_int, biP_tupF, biP_tupT, biP_lstF, biP_lstT, biP_all, biP_any, biP_max, biP_min, biP_max2, biP_min2, walk_tup, walk_fl, seq_tup, seq_fl, boolP_bl, isi_int, isi_bl, isi_tup, isi_fl, isi_str, isi_non, cmpP_in, cmpP_nin, ixP_tup, ixP_fl, ixP_scr, Option.some.injEq, exists_eq_left', List.map_cons, List.map_nil, List.length_cons, List.length_nil, List.cons_append, List.nil_append, List.getElem?_cons_zero, List.getElem?_cons_succ, List.set_cons_zero, List.set_cons_succ, Nat.reduceAdd, Nat.reduceSub, List.replicate_succ, List.replicate_zero, List.append_nil, if_true, Bool.not_false, Bool.not_true, Bool.false_eq_true, if_false, reduceIte, last_get, last_set, t_law_6, eL]
  refine ⟨_, at0, ?_⟩
  simp only [evSs, evS, evE, evEs, evO, evT, evI, rdP, startD, asgP, wipeD, binP_add, binP_addT, binP_addF, binP_addS, binP_sub, binP_mul, binP_rep, binP_div, binP_mod, binP_pow, binP_shl, binP_shr, binP_and, cmpP_lt, cmpP_le, cmpP_gt, cmpP_ge, cmpP_eqI, cmpP_neI, biP_lenT, biP_lenF, biP_lenS, biP_abs, biP_int, biP_tupF, biP_tupT, biP_lstF, biP_lstT, biP_all, biP_any, biP_max, biP_min, biP_max2, biP_min2, walk_tup, walk_fl, seq_tup, seq_fl, boolP_bl, isi_int, isi_bl, isi_tup, isi_fl, isi_str, isi_non, cmpP_in, cmpP_nin, ixP_tup, ixP_fl, ixP_scr, Option.some.injEq, exists_eq_left', List.map_cons, List.map_nil, List.length_cons, List.length_nil, List.cons_append, List.nil_append, List.getElem?_cons_zero, List.getElem?_cons_succ, List.set_cons_zero, List.set_cons_succ, Nat.reduceAdd, Nat.reduceSub, List.replicate_succ, List.replicate_zero, List.append_nil, if_true, Bool.not_false, Bool.not_true, Bool.false_eq_true, if_false, reduceIte, last_get, last_set]
  rw [if_neg (by decide)]
  refine ⟨_, at1, ?_⟩
  refine inP_tupN ?_
  have hin : (goods bl P).contains p = true := List.contains_iff_mem.mpr (mem_goods.mpr ⟨dr.p1, hp1, dr.fit⟩)
  rw [hin]
  rw [if_neg (by decide)]
  refine ⟨_, at1, ?_⟩
  simp only [evSs, evS, evE, evEs, evO, evT, evI, rdP, startD, asgP, wipeD, binP_add, binP_addT, binP_addF, binP_addS, binP_sub, binP_mul, binP_rep, binP_div, binP_mod, binP_pow, binP_shl, binP_shr, binP_and, cmpP_lt, cmpP_le, cmpP_gt, cmpP_ge, cmpP_eqI, cmpP_neI, biP_lenT, biP_lenF, biP_lenS, biP_abs, biP_int, biP_tupF, biP_tupT, biP_lstF, biP_lstT, biP_all, biP_any, biP_max, biP_min, biP_max2, biP_min2, walk_tup, walk_fl, seq_tup, seq_fl, boolP_bl, isi_int, isi_bl, isi_tup, isi_fl, isi_str, isi_non, cmpP_in, cmpP_nin, ixP_tup, ixP_fl, ixP_scr, Option.some.injEq, exists_eq_left', List.map_cons, List.map_nil, List.length_cons, List.length_nil, List.cons_append, List.nil_append, List.getElem?_cons_zero, List.getElem?_cons_succ, List.set_cons_zero, List.set_cons_succ, Nat.reduceAdd, Nat.reduceSub, List.replicate_succ, List.replicate_zero, List.append_nil, if_true, Bool.not_false, Bool.not_true, Bool.false_eq_true, if_false, reduceIte, last_get, last_set]
  refine ⟨_, at1, ?_⟩
  refine ⟨_, _, rfl, ints_eN _, by rw [List.length_map]; omega, ?_⟩
  rw [set_inc (goods_inc bl P)]
  refine cmpP_neOf (okD_flN _ _) (okD_flN _ _) (qv_self _ _ (okD_flN _ 59)) ?_
  rw [if_neg (by decide)]
  exact k bl p P word a b dr hp1 hp2 hb
/-! ### each period -/
def keyT (t : Nat × Nat) : NestedKey := .tup [kN t.1, kN t.2]
theorem keyT_of (t : Nat × Nat) : keyN (.tup [eN t.1, eN t.2]) = some (keyT t) := by
  have e : toNK (.tup [eN t.1, eN t.2]) = some (keyT t) := by
    simp only [toNK, toNKs, toNK_eN]; rfl
  have d : (keyT t).depth ≤ 8 := by
    simp only [keyT, NestedKey.depth, NestedKey.depthAll, depth_kN]
    decide
  unfold keyN
  simp only [e]
  rw [if_pos d]
theorem keyT_inj {s t : Nat × Nat} (h : keyT s = keyT t) : s = t := by
  unfold keyT at h
  have h := NestedKey.tup.inj h
  injection h with h1 h
  injection h with h2 h
  exact Prod.ext (kN_inj h1) (kN_inj h2)
def encT (ts : List (Nat × Nat)) : List (NestedKey × D) := ts.map fun t => (keyT t, .bl true)
theorem unNK_keyT (t : Nat × Nat) : unNK (keyT t) = eP t := rfl
theorem put_encT (ts : List (Nat × Nat)) (q : Nat × Nat) : putD (encT ts) (keyT q) (.bl true) = encT (addQ ts q) := by
  unfold addQ
  by_cases h : q ∈ ts
  · rw [if_pos h]
    unfold putD
    have hin : (keyT q, D.bl true) ∈ encT ts := List.mem_map.mpr ⟨q, h, rfl⟩
    rw [if_pos (List.any_eq_true.mpr ⟨(keyT q, D.bl true), hin, by rw [decide_eq_true_eq]⟩)]
    unfold encT
    rw [List.map_map]
    refine List.map_congr_left fun t _ => ?_
    show (if keyT t = keyT q then (keyT t, D.bl true) else (keyT t, D.bl true)) = _
    split <;> rfl
  · rw [if_neg h, putD_new]
    · unfold encT
      rw [List.map_append]; rfl
    · intro kv hkv e
      obtain ⟨t, ht, rfl⟩ := List.mem_map.mp hkv
      exact h (by rw [← keyT_inj e]; exact ht)
theorem lawB (h : HG G) (dr : DrB bl p word) (hp1 : p ≤ P) (hp2 : P ≤ 2000)
    (k : ∀ ex x7 x8 x9 x10 x11, evSs G cst t_law_8 (endE S R) (some (.scr ns) :: some (.ref S.length) :: some (eN p) :: some (.fl (word.map eN)) :: some (eWs bl) :: some (eN P) :: some (gd (goods bl P)) :: x7 :: x8 :: x9 :: x10 :: x11 :: none :: none :: none :: none :: none :: none :: none :: none :: none :: none :: none :: none :: none :: none :: none :: none :: none :: none :: none :: none :: none :: none :: none :: none :: []) (S ++ boxO a b :: ex)) :
    evSs G cst t_law_7 (endE S R) (some (.scr ns) :: some (.ref S.length) :: some (eN p) :: some (.fl (word.map eN)) :: some (eWs bl) :: some (eN P) :: some (gd (goods bl P)) :: none :: none :: none :: none :: none :: none :: none :: none :: none :: none :: none :: none :: none :: none :: none :: none :: none :: none :: none :: none :: none :: none :: none :: none :: none :: none :: none :: none :: none :: []) (S ++ [boxO a b]) := by
  simp only [evSs, evS, evE, evEs, evO, evT, evI, rdP, startD, asgP, wipeD, binP_add, binP_addT, binP_addF, binP_addS, binP_sub, binP_mul, binP_rep, binP_div, binP_mod, binP_pow, binP_shl, binP_shr, binP_and, cmpP_lt, cmpP_le, cmpP_gt, cmpP_ge, cmpP_eqI, cmpP_neI, biP_lenT, biP_lenF, biP_lenS, biP_abs, biP_int, biP_tupF, biP_tupT, biP_lstF, biP_lstT, biP_all, biP_any, biP_max, biP_min, biP_max2, biP_min2, walk_tup, walk_fl, seq_tup, seq_fl, boolP_bl, isi_int, isi_bl, isi_tup, isi_fl, isi_str, isi_non, cmpP_in, cmpP_nin, ixP_tup, ixP_fl, ixP_scr, Option.some.injEq, exists_eq_left', List.map_cons, List.map_nil, List.length_cons, List.length_nil, List.cons_append, List.nil_append, List.getElem?_cons_zero, List.getElem?_cons_succ, List.set_cons_zero, List.set_cons_succ, Nat.reduceAdd, Nat.reduceSub, List.replicate_succ, List.replicate_zero, List.append_nil, if_true, Bool.not_false, Bool.not_true, Bool.false_eq_true, if_false, reduceIte, last_get, last_set, t_law_7, eN]
  refine ⟨⟨by omega, by omega, by omega, by omega⟩, ?_⟩
  have nm := dr.ok.nm
  have hgl := goods_len bl P
  refine forP_of eN (fun xs ρ S' => ∃ ex x7 x8 x9 x10 x11, (∀ q ∈ xs, 1 ≤ q ∧ q ≤ P) ∧ S' = S ++ boxO a b :: ex ∧ ρ = (some (.scr ns) :: some (.ref S.length) :: some (eN p) :: some (.fl (word.map eN)) :: some (eWs bl) :: some (eN P) :: some (gd (goods bl P)) :: x7 :: x8 :: x9 :: x10 :: x11 :: none :: none :: none :: none :: none :: none :: none :: none :: none :: none :: none :: none :: none :: none :: none :: none :: none :: none :: none :: none :: none :: none :: none :: none :: [])) ((List.range P).map (· + 1)) (rg_one P)
    ⟨[], none, none, none, none, none, fun q hq => by obtain ⟨i, hi, rfl⟩ := List.mem_map.mp hq; rw [List.mem_range] at hi; omega, rfl, rfl⟩ ?_ ?_
  · rintro q xs ρ S' ⟨ex, x7, x8, x9, x10, x11, hm, rfl, rfl⟩
    refine ⟨trivial, fun Q hQ => ?_⟩
    obtain ⟨hq1, hqP⟩ := hm q List.mem_cons_self
    simp only [evSs, evS, evE, evEs, evO, evT, evI, rdP, startD, asgP, wipeD, binP_add, binP_addT, binP_addF, binP_addS, binP_sub, binP_mul, binP_rep, binP_div, binP_mod, binP_pow, binP_shl, binP_shr, binP_and, cmpP_lt, cmpP_le, cmpP_gt, cmpP_ge, cmpP_eqI, cmpP_neI, biP_lenT, biP_lenF, biP_lenS, biP_abs, biP_int, biP_tupF, biP_tupT, biP_lstF, biP_lstT, biP_all, biP_any, biP_max, biP_min, biP_max2, biP_min2, walk_tup, walk_fl, seq_tup, seq_fl, boolP_bl, isi_int, isi_bl, isi_tup, isi_fl, isi_str, isi_non, cmpP_in, cmpP_nin, ixP_tup, ixP_fl, ixP_scr, Option.some.injEq, exists_eq_left', List.map_cons, List.map_nil, List.length_cons, List.length_nil, List.cons_append, List.nil_append, List.getElem?_cons_zero, List.getElem?_cons_succ, List.set_cons_zero, List.set_cons_succ, Nat.reduceAdd, Nat.reduceSub, List.replicate_succ, List.replicate_zero, List.append_nil, if_true, Bool.not_false, Bool.not_true, Bool.false_eq_true, if_false, reduceIte, last_get, last_set]
    generalize hT : S ++ boxO a b :: ex = T
    have hlast : ∀ o : Ob, (T ++ [o])[T.length]? = some o := fun o => last_get _ _ _
    refine ⟨bl.map eP, rfl, ?_⟩
    refine forP_of eP (fun ys ρ S' => ∃ ts x9 x10, (ys.map (tagB q)).foldl addQ ts = tags bl q ∧ ts.length + ys.length ≤ 40 ∧ S' = T ++ [.dctN false (encT ts)] ∧ ρ = (some (.scr ns) :: some (.ref S.length) :: some (eN p) :: some (.fl (word.map eN)) :: some (eWs bl) :: some (eN P) :: some (gd (goods bl P)) :: some (eN q) :: some (.ref T.length) :: x9 :: x10 :: x11 :: none :: none :: none :: none :: none :: none :: none :: none :: none :: none :: none :: none :: none :: none :: none :: none :: none :: none :: none :: none :: none :: none :: none :: none :: [])) bl rfl
      ⟨[], x9, x10, rfl, by simpa using nm, rfl, rfl⟩ ?_ ?_
    · rintro y ys ρ S' ⟨ts, x9, x10, hts, htl, rfl, rfl⟩
      refine ⟨fun z => z, fun Q2 hQ2 => ?_⟩
      rw [List.length_cons] at htl
      simp only [evSs, evS, evE, evEs, evO, evT, evI, rdP, startD, asgP, wipeD, binP_add, binP_addT, binP_addF, binP_addS, binP_sub, binP_mul, binP_rep, binP_div, binP_mod, binP_pow, binP_shl, binP_shr, binP_and, cmpP_lt, cmpP_le, cmpP_gt, cmpP_ge, cmpP_eqI, cmpP_neI, biP_lenT, biP_lenF, biP_lenS, biP_abs, biP_int, biP_tupF, biP_tupT, biP_lstF, biP_lstT, biP_all, biP_any, biP_max, biP_min, biP_max2, biP_min2, walk_tup, walk_fl, seq_tup, seq_fl, boolP_bl, isi_int, isi_bl, isi_tup, isi_fl, isi_str, isi_non, cmpP_in, cmpP_nin, ixP_tup, ixP_fl, ixP_scr, Option.some.injEq, exists_eq_left', List.map_cons, List.map_nil, List.length_cons, List.length_nil, List.cons_append, List.nil_append, List.getElem?_cons_zero, List.getElem?_cons_succ, List.set_cons_zero, List.set_cons_succ, Nat.reduceAdd, Nat.reduceSub, List.replicate_succ, List.replicate_zero, List.append_nil, if_true, Bool.not_false, Bool.not_true, Bool.false_eq_true, if_false, reduceIte, last_get, last_set, eP, eN]
      have hmod : ((y.1 : Nat) : Int) % ((q : Nat) : Int) = ((y.1 % q : Nat) : Int) := (Int.natCast_emod _ _).symm
      rw [hmod]
      refine ⟨by omega, size_small (by decide), ?_⟩
      refine putP_dctN (hlast _) (keyT_of (tagB q y)) (by unfold encT; rw [List.length_map]; omega) ?_
      rw [last_set, put_encT]
      refine hQ2 _ _ ⟨addQ ts (tagB q y), _, _, hts, ?_, rfl, rfl⟩
      have : (addQ ts (tagB q y)).length ≤ ts.length + 1 := foldQ_len [tagB q y] ts
      omega
    · rintro ρ S' ⟨ts, x9, x10, hts, htl, rfl, rfl⟩
      refine ⟨fun z => z, ?_⟩
      have hts : ts = tags bl q := hts
      have htl : ts.length ≤ 40 := by simpa using htl
      simp only [evSs, evS, evE, evEs, evO, evT, evI, rdP, startD, asgP, wipeD, binP_add, binP_addT, binP_addF, binP_addS, binP_sub, binP_mul, binP_rep, binP_div, binP_mod, binP_pow, binP_shl, binP_shr, binP_and, cmpP_lt, cmpP_le, cmpP_gt, cmpP_ge, cmpP_eqI, cmpP_neI, biP_lenT, biP_lenF, biP_lenS, biP_abs, biP_int, biP_tupF, biP_tupT, biP_lstF, biP_lstT, biP_all, biP_any, biP_max, biP_min, biP_max2, biP_min2, walk_tup, walk_fl, seq_tup, seq_fl, boolP_bl, isi_int, isi_bl, isi_tup, isi_fl, isi_str, isi_non, cmpP_in, cmpP_nin, ixP_tup, ixP_fl, ixP_scr, Option.some.injEq, exists_eq_left', List.map_cons, List.map_nil, List.length_cons, List.length_nil, List.cons_append, List.nil_append, List.getElem?_cons_zero, List.getElem?_cons_succ, List.set_cons_zero, List.set_cons_succ, Nat.reduceAdd, Nat.reduceSub, List.replicate_succ, List.replicate_zero, List.append_nil, if_true, Bool.not_false, Bool.not_true, Bool.false_eq_true, if_false, reduceIte, last_get, last_set]
      simp only [biP, hlast]
      simp only [evSs, evS, evE, evEs, evO, evT, evI, rdP, startD, asgP, wipeD, binP_add, binP_addT, binP_addF, binP_addS, binP_sub, binP_mul, binP_rep, binP_div, binP_mod, binP_pow, binP_shl, binP_shr, binP_and, cmpP_lt, cmpP_le, cmpP_gt, cmpP_ge, cmpP_eqI, cmpP_neI, biP_lenT, biP_lenF, biP_lenS, biP_abs, biP_int, biP_tupF, biP_tupT, biP_lstF, biP_lstT, biP_all, biP_any, biP_max, biP_min, biP_max2, biP_min2, walk_tup, walk_fl, seq_tup, seq_fl, boolP_bl, isi_int, isi_bl, isi_tup, isi_fl, isi_str, isi_non, cmpP_in, cmpP_nin, ixP_tup, ixP_fl, ixP_scr, Option.some.injEq, exists_eq_left', List.map_cons, List.map_nil, List.length_cons, List.length_nil, List.cons_append, List.nil_append, List.getElem?_cons_zero, List.getElem?_cons_succ, List.set_cons_zero, List.set_cons_succ, Nat.reduceAdd, Nat.reduceSub, List.replicate_succ, List.replicate_zero, List.append_nil, if_true, Bool.not_false, Bool.not_true, Bool.false_eq_true, if_false, reduceIte, last_get, last_set]
      have hcol : colOf (T ++ [.dctN false (encT ts)]) (.ref T.length) = some (ts.map eP) := by
        unfold colOf
        simp only [hlast]
        unfold encT
        rw [List.map_map]
        rfl
      refine ⟨_, hcol, fun d hd => by obtain ⟨t, _, rfl⟩ := List.mem_map.mp hd; rfl, ?_⟩
      refine srtP_congr (kf := fun d => .tuple [.int (((decP d).1 : Nat) : Int), .int (((decP d).2 : Nat) : Int)]) (fun d hd => by obtain ⟨t, _, rfl⟩ := List.mem_map.mp hd; rfl) ?_
      refine srtP_ii eP decP decP_eP (fun t => ((t.1 : Nat) : Int)) (fun t => ((t.2 : Nat) : Int)) (size_small (by omega)) ?_
      have hperm := List.mergeSort_perm ts (fun (p q : Nat × Nat) => decide (((p.1 : Nat) : Int) < ((q.1 : Nat) : Int) ∨ (((p.1 : Nat) : Int) = ((q.1 : Nat) : Int) ∧ ((p.2 : Nat) : Int) ≤ ((q.2 : Nat) : Int))))
      revert hperm
      generalize ts.mergeSort _ = us
      intro hperm
      simp only [evSs, evS, evE, evEs, evO, evT, evI, rdP, startD, asgP, wipeD, binP_add, binP_addT, binP_addF, binP_addS, binP_sub, binP_mul, binP_rep, binP_div, binP_mod, binP_pow, binP_shl, binP_shr, binP_and, cmpP_lt, cmpP_le, cmpP_gt, cmpP_ge, cmpP_eqI, cmpP_neI, biP_lenT, biP_lenF, biP_lenS, biP_abs, biP_int, biP_tupF, biP_tupT, biP_lstF, biP_lstT, biP_all, biP_any, biP_max, biP_min, biP_max2, biP_min2, walk_tup, walk_fl, seq_tup, seq_fl, boolP_bl, isi_int, isi_bl, isi_tup, isi_fl, isi_str, isi_non, cmpP_in, cmpP_nin, ixP_tup, ixP_fl, ixP_scr, Option.some.injEq, exists_eq_left', List.map_cons, List.map_nil, List.length_cons, List.length_nil, List.cons_append, List.nil_append, List.getElem?_cons_zero, List.getElem?_cons_succ, List.set_cons_zero, List.set_cons_succ, Nat.reduceAdd, Nat.reduceSub, List.replicate_succ, List.replicate_zero, List.append_nil, if_true, Bool.not_false, Bool.not_true, Bool.false_eq_true, if_false, reduceIte, last_get, last_set]
      have hul := hperm.length_eq
      refine mapP_all eP (fun t => eN t.1) us rfl (fun t ht Q3 hQ3 => ?_) (fun z => z) (by omega) ?_
      · simp only [evSs, evS, evE, evEs, evO, evT, evI, rdP, startD, asgP, wipeD, binP_add, binP_addT, binP_addF, binP_addS, binP_sub, binP_mul, binP_rep, binP_div, binP_mod, binP_pow, binP_shl, binP_shr, binP_and, cmpP_lt, cmpP_le, cmpP_gt, cmpP_ge, cmpP_eqI, cmpP_neI, biP_lenT, biP_lenF, biP_lenS, biP_abs, biP_int, biP_tupF, biP_tupT, biP_lstF, biP_lstT, biP_all, biP_any, biP_max, biP_min, biP_max2, biP_min2, walk_tup, walk_fl, seq_tup, seq_fl, boolP_bl, isi_int, isi_bl, isi_tup, isi_fl, isi_str, isi_non, cmpP_in, cmpP_nin, ixP_tup, ixP_fl, ixP_scr, Option.some.injEq, exists_eq_left', List.map_cons, List.map_nil, List.length_cons, List.length_nil, List.cons_append, List.nil_append, List.getElem?_cons_zero, List.getElem?_cons_succ, List.set_cons_zero, List.set_cons_succ, Nat.reduceAdd, Nat.reduceSub, List.replicate_succ, List.replicate_zero, List.append_nil, if_true, Bool.not_false, Bool.not_true, Bool.false_eq_true, if_false, reduceIte, last_get, last_set, eP]
        refine ⟨_, at0, hQ3⟩
      · have hal := alone_iff (b := bl) (q := q) (T := us) (by rw [← hts]; exact hperm)
        refine ⟨_, us.map fun x : Nat × Nat => ((x.1 : Nat) : Int), rfl, DL.ints_map (f := fun x : Nat × Nat => ((x.1 : Nat) : Int)) (fun _ => rfl) us, by rw [List.length_map]; omega, ?_⟩
        simp only [evSs, evS, evE, evEs, evO, evT, evI, rdP, startD, asgP, wipeD, binP_add, binP_addT, binP_addF, binP_addS, binP_sub, binP_mul, binP_rep, binP_div, binP_mod, binP_pow, binP_shl, binP_shr, binP_and, cmpP_lt, cmpP_le, cmpP_gt, cmpP_ge, cmpP_eqI, cmpP_neI, biP_lenT, biP_lenF, biP_lenS, biP_abs, biP_int, biP_tupF, biP_tupT, biP_lstF, biP_lstT, biP_all, biP_any, biP_max, biP_min, biP_max2, biP_min2, walk_tup, walk_fl, seq_tup, seq_fl, boolP_bl, isi_int, isi_bl, isi_tup, isi_fl, isi_str, isi_non, cmpP_in, cmpP_nin, ixP_tup, ixP_fl, ixP_scr, Option.some.injEq, exists_eq_left', List.map_cons, List.map_nil, List.length_cons, List.length_nil, List.cons_append, List.nil_append, List.getElem?_cons_zero, List.getElem?_cons_succ, List.set_cons_zero, List.set_cons_succ, Nat.reduceAdd, Nat.reduceSub, List.replicate_succ, List.replicate_zero, List.append_nil, if_true, Bool.not_false, Bool.not_true, Bool.false_eq_true, if_false, reduceIte, last_get, last_set, gd]
        refine ⟨_, at1, ?_⟩
        refine inP_tupN ?_
        have e1 : decide ((((encT ts).length : Nat) : Int) = (((setI (us.map fun x => (x.1 : Int))).length : Nat) : Int)) = fitB bl q := by
          rw [Bool.eq_iff_iff, decide_eq_true_iff, ← hal]
          unfold encT
          rw [List.length_map]
          omega
        have e2 : (goods bl P).contains q = fitB bl q := by
          rw [Bool.eq_iff_iff, List.contains_iff_mem, mem_goods]
          exact ⟨fun z => z.2.2, fun z => ⟨hq1, hqP, z⟩⟩
        rw [e1, e2]
        refine cmpP_neOf (okD_bl _ _) (okD_bl _ _) (qv_bl _ _) ?_
        rw [decide_eq_true rfl, if_neg (by decide)]
        refine hQ _ _ ⟨ex ++ [.dctN false (encT ts)], _, _, _, _, _, fun q' h' => hm q' (List.mem_cons_of_mem _ h'), by rw [← hT, List.append_assoc]; rfl, rfl⟩
  · rintro ρ S' ⟨ex, x7, x8, x9, x10, x11, _, rfl, rfl⟩
    exact ⟨trivial, k ex x7 x8 x9 x10 x11⟩
end K13

set_option Elab.async false
set_option linter.all false
set_option maxRecDepth 100000
set_option maxHeartbeats 1000000
/-! A9: the law, blinks moved on, marks. -/
namespace K13
open PySem PySem.Spec PyProof.Rows L2 DL
variable {G : Nat → Option Phi} {S : Store} {R : RE} {ds : List D}

variable {ns : List Int} {bl : Bl} {p P : Nat} {word : List Nat} {a b mv : Nat} {ex : Store}
variable {x7 x8 x9 x10 x11 x12 x13 x14 x15 x16 x17 x18 x19 x20 x21 x22 x23 x24 x25 x26 x27 x28 x29 x30 x31 x32 x33 x34 x35 : Option D}
theorem map_mv (mv : Nat) (bl : Bl) : (bl.map fun x => eP (mvB mv x)) = (bl.map (mvB mv)).map eP := by rw [List.map_map]; rfl
theorem map_ex (bl : Bl) : (bl.map fun x => eP (exB x)) = (bl.map exB).map eP := by rw [List.map_map]; rfl
theorem lawC (h : HG G) (dr : DrB bl p word) (hp1 : p ≤ P) (hp2 : P ≤ 2000) (hb : b ≤ 2147483647)
    (k : ∀ mv a b, mv < 900 → b ≤ 2147483647 → evSs G cst t_law_12 (endE S R) (some (.scr ns) :: some (.ref S.length) :: some (eN p) :: some (.fl (word.map eN)) :: some (eWs bl) :: some (eN P) :: some (gd (goods bl P)) :: x7 :: x8 :: x9 :: x10 :: x11 :: none :: some (eN mv) :: some (eWs (bl.map (mvB mv))) :: some (eWs (bl.map exB)) :: none :: none :: none :: none :: none :: none :: none :: none :: none :: none :: none :: none :: none :: none :: none :: none :: none :: none :: none :: none :: []) (S ++ boxO a b :: ex)) :
    evSs G cst t_law_8 (endE S R) (some (.scr ns) :: some (.ref S.length) :: some (eN p) :: some (.fl (word.map eN)) :: some (eWs bl) :: some (eN P) :: some (gd (goods bl P)) :: x7 :: x8 :: x9 :: x10 :: x11 :: none :: none :: none :: none :: none :: none :: none :: none :: none :: none :: none :: none :: none :: none :: none :: none :: none :: none :: none :: none :: none :: none :: none :: none :: []) (S ++ boxO a b :: ex) := by
  have hP1 : 1 ≤ P := by have := dr.p1; omega
  have nm := dr.ok.nm
  simp only [evSs, evS, evE, evEs, evO, evT, evI, rdP, startD, asgP, wipeD, binP_add, binP_addT, binP_addF, binP_addS, binP_sub, binP_mul, binP_rep, binP_div, binP_mod, binP_pow, binP_shl, binP_shr, binP_and, cmpP_lt, cmpP_le, cmpP_gt, cmpP_ge, cmpP_eqI, cmpP_neI, biP_lenT, biP_lenF, biP_lenS, biP_abs, biP_int, biP_tupF, biP_tupT, biP_lstF, biP_lstT, biP_all, biP_any, biP_max, biP_min, biP_max2, biP_min2, walk_tup, walk_fl, seq_tup, seq_fl, boolP_bl, isi_int, isi_bl, isi_tup, isi_fl, isi_str, isi_non, cmpP_in, cmpP_nin, ixP_tup, ixP_fl, ixP_scr, Option.some.injEq, exists_eq_left', List.map_cons, List.map_nil, List.length_cons, List.length_nil, List.cons_append, List.nil_append, List.getElem?_cons_zero, List.getElem?_cons_succ, List.set_cons_zero, List.set_cons_succ, Nat.reduceAdd, Nat.reduceSub, List.replicate_succ, List.replicate_zero, List.append_nil, if_true, Bool.not_false, Bool.not_true, Bool.false_eq_true, if_false, reduceIte, last_get, last_set, t_law_8, h.draw]
  refine draw_e 900 hb (by decide) (by decide) fun mv a b hmv hb => ?_
  simp only [evSs, evS, evE, evEs, evO, evT, evI, rdP, startD, asgP, wipeD, binP_add, binP_addT, binP_addF, binP_addS, binP_sub, binP_mul, binP_rep, binP_div, binP_mod, binP_pow, binP_shl, binP_shr, binP_and, cmpP_lt, cmpP_le, cmpP_gt, cmpP_ge, cmpP_eqI, cmpP_neI, biP_lenT, biP_lenF, biP_lenS, biP_abs, biP_int, biP_tupF, biP_tupT, biP_lstF, biP_lstT, biP_all, biP_any, biP_max, biP_min, biP_max2, biP_min2, walk_tup, walk_fl, seq_tup, seq_fl, boolP_bl, isi_int, isi_bl, isi_tup, isi_fl, isi_str, isi_non, cmpP_in, cmpP_nin, ixP_tup, ixP_fl, ixP_scr, Option.some.injEq, exists_eq_left', List.map_cons, List.map_nil, List.length_cons, List.length_nil, List.cons_append, List.nil_append, List.getElem?_cons_zero, List.getElem?_cons_succ, List.set_cons_zero, List.set_cons_succ, Nat.reduceAdd, Nat.reduceSub, List.replicate_succ, List.replicate_zero, List.append_nil, if_true, Bool.not_false, Bool.not_true, Bool.false_eq_true, if_false, reduceIte, last_get, last_set, t_law_9, eWs]
  refine mapP_all eP (fun x => eP (mvB mv x)) bl rfl (fun x hx Q hQ => ?_) (fun z => z) (by omega) ?_
  · simp only [evSs, evS, evE, evEs, evO, evT, evI, rdP, startD, asgP, wipeD, binP_add, binP_addT, binP_addF, binP_addS, binP_sub, binP_mul, binP_rep, binP_div, binP_mod, binP_pow, binP_shl, binP_shr, binP_and, cmpP_lt, cmpP_le, cmpP_gt, cmpP_ge, cmpP_eqI, cmpP_neI, biP_lenT, biP_lenF, biP_lenS, biP_abs, biP_int, biP_tupF, biP_tupT, biP_lstF, biP_lstT, biP_all, biP_any, biP_max, biP_min, biP_max2, biP_min2, walk_tup, walk_fl, seq_tup, seq_fl, boolP_bl, isi_int, isi_bl, isi_tup, isi_fl, isi_str, isi_non, cmpP_in, cmpP_nin, ixP_tup, ixP_fl, ixP_scr, Option.some.injEq, exists_eq_left', List.map_cons, List.map_nil, List.length_cons, List.length_nil, List.cons_append, List.nil_append, List.getElem?_cons_zero, List.getElem?_cons_succ, List.set_cons_zero, List.set_cons_succ, Nat.reduceAdd, Nat.reduceSub, List.replicate_succ, List.replicate_zero, List.append_nil, if_true, Bool.not_false, Bool.not_true, Bool.false_eq_true, if_false, reduceIte, last_get, last_set, eP, eN]
    refine ⟨size_small (by decide), ?_⟩
    have e : ((x.1 : Nat) : Int) + (mv : Nat) = ((x.1 + mv : Nat) : Int) := by omega
    rw [e]
    exact hQ
  · rw [map_mv]
    simp only [evSs, evS, evE, evEs, evO, evT, evI, rdP, startD, asgP, wipeD, binP_add, binP_addT, binP_addF, binP_addS, binP_sub, binP_mul, binP_rep, binP_div, binP_mod, binP_pow, binP_shl, binP_shr, binP_and, cmpP_lt, cmpP_le, cmpP_gt, cmpP_ge, cmpP_eqI, cmpP_neI, biP_lenT, biP_lenF, biP_lenS, biP_abs, biP_int, biP_tupF, biP_tupT, biP_lstF, biP_lstT, biP_all, biP_any, biP_max, biP_min, biP_max2, biP_min2, walk_tup, walk_fl, seq_tup, seq_fl, boolP_bl, isi_int, isi_bl, isi_tup, isi_fl, isi_str, isi_non, cmpP_in, cmpP_nin, ixP_tup, ixP_fl, ixP_scr, Option.some.injEq, exists_eq_left', List.map_cons, List.map_nil, List.length_cons, List.length_nil, List.cons_append, List.nil_append, List.getElem?_cons_zero, List.getElem?_cons_succ, List.set_cons_zero, List.set_cons_succ, Nat.reduceAdd, Nat.reduceSub, List.replicate_succ, List.replicate_zero, List.append_nil, if_true, Bool.not_false, Bool.not_true, Bool.false_eq_true, if_false, reduceIte, last_get, last_set, t_law_10, eWs]
    refine mapP_all eP (fun x => eP (exB x)) bl rfl (fun x hx Q hQ => ?_) (fun z => z) (by omega) ?_
    · simp only [evSs, evS, evE, evEs, evO, evT, evI, rdP, startD, asgP, wipeD, binP_add, binP_addT, binP_addF, binP_addS, binP_sub, binP_mul, binP_rep, binP_div, binP_mod, binP_pow, binP_shl, binP_shr, binP_and, cmpP_lt, cmpP_le, cmpP_gt, cmpP_ge, cmpP_eqI, cmpP_neI, biP_lenT, biP_lenF, biP_lenS, biP_abs, biP_int, biP_tupF, biP_tupT, biP_lstF, biP_lstT, biP_all, biP_any, biP_max, biP_min, biP_max2, biP_min2, walk_tup, walk_fl, seq_tup, seq_fl, boolP_bl, isi_int, isi_bl, isi_tup, isi_fl, isi_str, isi_non, cmpP_in, cmpP_nin, ixP_tup, ixP_fl, ixP_scr, Option.some.injEq, exists_eq_left', List.map_cons, List.map_nil, List.length_cons, List.length_nil, List.cons_append, List.nil_append, List.getElem?_cons_zero, List.getElem?_cons_succ, List.set_cons_zero, List.set_cons_succ, Nat.reduceAdd, Nat.reduceSub, List.replicate_succ, List.replicate_zero, List.append_nil, if_true, Bool.not_false, Bool.not_true, Bool.false_eq_true, if_false, reduceIte, last_get, last_set, eP, eN]
      refine ⟨size_small (by decide), ?_⟩
      have hx2 := dr.ok.m2 x hx
      have e : (1 : Int) - ((x.2 : Nat) : Int) = ((1 - x.2 : Nat) : Int) := by omega
      rw [e]
      exact hQ
    · rw [map_ex]
      simp only [evSs, evS, evE, evEs, evO, evT, evI, rdP, startD, asgP, wipeD, binP_add, binP_addT, binP_addF, binP_addS, binP_sub, binP_mul, binP_rep, binP_div, binP_mod, binP_pow, binP_shl, binP_shr, binP_and, cmpP_lt, cmpP_le, cmpP_gt, cmpP_ge, cmpP_eqI, cmpP_neI, biP_lenT, biP_lenF, biP_lenS, biP_abs, biP_int, biP_tupF, biP_tupT, biP_lstF, biP_lstT, biP_all, biP_any, biP_max, biP_min, biP_max2, biP_min2, walk_tup, walk_fl, seq_tup, seq_fl, boolP_bl, isi_int, isi_bl, isi_tup, isi_fl, isi_str, isi_non, cmpP_in, cmpP_nin, ixP_tup, ixP_fl, ixP_scr, Option.some.injEq, exists_eq_left', List.map_cons, List.map_nil, List.length_cons, List.length_nil, List.cons_append, List.nil_append, List.getElem?_cons_zero, List.getElem?_cons_succ, List.set_cons_zero, List.set_cons_succ, Nat.reduceAdd, Nat.reduceSub, List.replicate_succ, List.replicate_zero, List.append_nil, if_true, Bool.not_false, Bool.not_true, Bool.false_eq_true, if_false, reduceIte, last_get, last_set, t_law_11, h.periods, h.read, h.ltp]
      have ok1 : OkB (bl.map (mvB mv)) := ok_mv dr.ok fun x hx => by have := dr.lt x hx; omega
      have ok2 : OkB (bl.map exB) := ok_ex dr.ok
      refine ⟨bl.map (mvB mv), P, rfl, ok1, hP1, hp2, _, rfl, okR_eL (goods_small hp2) _, ?_⟩
      rw [goods_mv]
      refine told_same (d := eL (goods bl P)) (okD_eL _ _) ?_
      rw [if_neg (by decide)]
      refine ⟨bl.map exB, P, rfl, ok2, hP1, hp2, ?_⟩
      rw [goods_ex dr.ok]
      refine told_same (d := eL (goods bl P)) (okD_eL _ _) ?_
      rw [if_neg (by decide)]
      exact k mv a b hmv hb
/-! ### three moments -/
theorem okD_none (k : Nat) : okD (.str "none") k = true := by simp only [okD]; decide +kernel
theorem okD_perhaps (k : Nat) : okD (.str "perhaps") k = true := by simp only [okD]; decide +kernel
theorem okD_mark (l : List (Option Nat)) (k : Nat) : okD (markV l) k = true := by
  rw [markV_N]
  split
  · exact okD_eN _ _
  · split
    · exact okD_none _
    · exact okD_perhaps _
theorem okR_mark (l : List (Option Nat)) (k : Nat) : okR (markV l) k = true := by
  rw [markV_N]
  split
  · exact okR_eN _ _
  · split
    · simp only [okR]; decide
    · simp only [okR]; decide
theorem in01 {S : Store} {l : List (Option Nat)} {B : Bool → Prop} (h : B (markN l).isSome) : inP S (markV l) (.tup [.int 0, .int 1]) B := by
  refine inP_tupD (okD_mark l _) (by simp only [okDs, okD, Bool.and_self]) ?_
  have e : ([D.int 0, D.int 1].any fun z => qv z (markV l)) = (markN l).isSome := by
    rw [markV_N]
    cases hm : markN l with
    | none =>
      simp only
      split <;> rfl
    | some x =>
      obtain ⟨_, hx, _⟩ := markN_all hm
      rcases (show x = 0 ∨ x = 1 by omega) with e | e <;> subst e <;> rfl
  rw [e]
  exact h
theorem mark_some {l : List (Option Nat)} {x : Nat} (h : markN l = some x) : markV l = eN x := by rw [markV_N, h]
theorem mark_none {l : List (Option Nat)} (h : markN l = none) (h0 : l ≠ []) : markV l = .str "perhaps" := by rw [markV_N, h]; simp only [if_neg h0]
theorem lawD (h : HG G) (dr : DrB bl p word) (hp1 : p ≤ P) (hp2 : P ≤ 2000) (hmv : mv < 900) (hb : b ≤ 2147483647)
    (k : ∀ a b x16 x17 x18, b ≤ 2147483647 → evSs G cst t_law_13 (endE S R) (some (.scr ns) :: some (.ref S.length) :: some (eN p) :: some (.fl (word.map eN)) :: some (eWs bl) :: some (eN P) :: some (gd (goods bl P)) :: x7 :: x8 :: x9 :: x10 :: x11 :: none :: some (eN mv) :: some (eWs (bl.map (mvB mv))) :: some (eWs (bl.map exB)) :: x16 :: x17 :: x18 :: none :: none :: none :: none :: none :: none :: none :: none :: none :: none :: none :: none :: none :: none :: none :: none :: none :: []) (S ++ boxO a b :: ex)) :
    evSs G cst t_law_12 (endE S R) (some (.scr ns) :: some (.ref S.length) :: some (eN p) :: some (.fl (word.map eN)) :: some (eWs bl) :: some (eN P) :: some (gd (goods bl P)) :: x7 :: x8 :: x9 :: x10 :: x11 :: none :: some (eN mv) :: some (eWs (bl.map (mvB mv))) :: some (eWs (bl.map exB)) :: none :: none :: none :: none :: none :: none :: none :: none :: none :: none :: none :: none :: none :: none :: none :: none :: none :: none :: none :: none :: []) (S ++ boxO a b :: ex) := by
  have hP1 : 1 ≤ P := by have := dr.p1; omega
  have nm := dr.ok.nm
  have ok1 : OkB (bl.map (mvB mv)) := ok_mv dr.ok fun x hx => by have := dr.lt x hx; omega
  have ok2 : OkB (bl.map exB) := ok_ex dr.ok
  have hgl := goods_len bl P
  have hg1 : ∀ q ∈ goods bl P, 1 ≤ q := fun q hq => (mem_goods.mp hq).1
  have hg0 : goods bl P ≠ [] := fun z => by
    have : p ∈ goods bl P := mem_goods.mpr ⟨dr.p1, hp1, dr.fit⟩
    rw [z] at this; cases this
  have hgm : goods (bl.map (mvB mv)) P = goods bl P := goods_mv
  have hge : goods (bl.map exB) P = goods bl P := goods_ex dr.ok
  simp only [evSs, evS, evE, evEs, evO, evT, evI, rdP, startD, asgP, wipeD, binP_add, binP_addT, binP_addF, binP_addS, binP_sub, binP_mul, binP_rep, binP_div, binP_mod, binP_pow, binP_shl, binP_shr, binP_and, cmpP_lt, cmpP_le, cmpP_gt, cmpP_ge, cmpP_eqI, cmpP_neI, biP_lenT, biP_lenF, biP_lenS, biP_abs, biP_int, biP_tupF, biP_tupT, biP_lstF, biP_lstT, biP_all, biP_any, biP_max, biP_min, biP_max2, biP_min2, walk_tup, walk_fl, seq_tup, seq_fl, boolP_bl, isi_int, isi_bl, isi_tup, isi_fl, isi_str, isi_non, cmpP_in, cmpP_nin, ixP_tup, ixP_fl, ixP_scr, Option.some.injEq, exists_eq_left', List.map_cons, List.map_nil, List.length_cons, List.length_nil, List.cons_append, List.nil_append, List.getElem?_cons_zero, List.getElem?_cons_succ, List.set_cons_zero, List.set_cons_succ, Nat.reduceAdd, Nat.reduceSub, List.replicate_succ, List.replicate_zero, List.append_nil, if_true, Bool.not_false, Bool.not_true, Bool.false_eq_true, if_false, reduceIte, last_get, last_set, t_law_12]
  refine ⟨by decide, by decide, ?_⟩
  refine forP_of id (fun xs ρ S' => ∃ a b x16 x17 x18, b ≤ 2147483647 ∧ S' = (S ++ boxO a b :: ex) ∧ ρ = (some (.scr ns) :: some (.ref S.length) :: some (eN p) :: some (.fl (word.map eN)) :: some (eWs bl) :: some (eN P) :: some (gd (goods bl P)) :: x7 :: x8 :: x9 :: x10 :: x11 :: none :: some (eN mv) :: some (eWs (bl.map (mvB mv))) :: some (eWs (bl.map exB)) :: x16 :: x17 :: x18 :: none :: none :: none :: none :: none :: none :: none :: none :: none :: none :: none :: none :: none :: none :: none :: none :: none :: [])) (rgD 0 (3 : Int).toNat) (List.map_id _).symm ⟨a, b, none, none, none, hb, rfl, rfl⟩ ?_ ?_
  · rintro x xs ρ S' ⟨a, b, x16, x17, x18, hb, rfl, rfl⟩
    refine ⟨trivial, fun Q hQ => ?_⟩
    simp only [evSs, evS, evE, evEs, evO, evT, evI, rdP, startD, asgP, wipeD, binP_add, binP_addT, binP_addF, binP_addS, binP_sub, binP_mul, binP_rep, binP_div, binP_mod, binP_pow, binP_shl, binP_shr, binP_and, cmpP_lt, cmpP_le, cmpP_gt, cmpP_ge, cmpP_eqI, cmpP_neI, biP_lenT, biP_lenF, biP_lenS, biP_abs, biP_int, biP_tupF, biP_tupT, biP_lstF, biP_lstT, biP_all, biP_any, biP_max, biP_min, biP_max2, biP_min2, walk_tup, walk_fl, seq_tup, seq_fl, boolP_bl, isi_int, isi_bl, isi_tup, isi_fl, isi_str, isi_non, cmpP_in, cmpP_nin, ixP_tup, ixP_fl, ixP_scr, Option.some.injEq, exists_eq_left', List.map_cons, List.map_nil, List.length_cons, List.length_nil, List.cons_append, List.nil_append, List.getElem?_cons_zero, List.getElem?_cons_succ, List.set_cons_zero, List.set_cons_succ, Nat.reduceAdd, Nat.reduceSub, List.replicate_succ, List.replicate_zero, List.append_nil, if_true, Bool.not_false, Bool.not_true, Bool.false_eq_true, if_false, reduceIte, last_get, last_set, h.draw]
    refine draw_e 20000 hb (by decide) (by decide) fun r a b hr hb => ?_
    simp only [evSs, evS, evE, evEs, evO, evT, evI, rdP, startD, asgP, wipeD, binP_add, binP_addT, binP_addF, binP_addS, binP_sub, binP_mul, binP_rep, binP_div, binP_mod, binP_pow, binP_shl, binP_shr, binP_and, cmpP_lt, cmpP_le, cmpP_gt, cmpP_ge, cmpP_eqI, cmpP_neI, biP_lenT, biP_lenF, biP_lenS, biP_abs, biP_int, biP_tupF, biP_tupT, biP_lstF, biP_lstT, biP_all, biP_any, biP_max, biP_min, biP_max2, biP_min2, walk_tup, walk_fl, seq_tup, seq_fl, boolP_bl, isi_int, isi_bl, isi_tup, isi_fl, isi_str, isi_non, cmpP_in, cmpP_nin, ixP_tup, ixP_fl, ixP_scr, Option.some.injEq, exists_eq_left', List.map_cons, List.map_nil, List.length_cons, List.length_nil, List.cons_append, List.nil_append, List.getElem?_cons_zero, List.getElem?_cons_succ, List.set_cons_zero, List.set_cons_succ, Nat.reduceAdd, Nat.reduceSub, List.replicate_succ, List.replicate_zero, List.append_nil, if_true, Bool.not_false, Bool.not_true, Bool.false_eq_true, if_false, reduceIte, last_get, last_set, eN]
    generalize hmo : ((r : Nat) : Int) - 5000 = mo
    simp only [evSs, evS, evE, evEs, evO, evT, evI, rdP, startD, asgP, wipeD, binP_add, binP_addT, binP_addF, binP_addS, binP_sub, binP_mul, binP_rep, binP_div, binP_mod, binP_pow, binP_shl, binP_shr, binP_and, cmpP_lt, cmpP_le, cmpP_gt, cmpP_ge, cmpP_eqI, cmpP_neI, biP_lenT, biP_lenF, biP_lenS, biP_abs, biP_int, biP_tupF, biP_tupT, biP_lstF, biP_lstT, biP_all, biP_any, biP_max, biP_min, biP_max2, biP_min2, walk_tup, walk_fl, seq_tup, seq_fl, boolP_bl, isi_int, isi_bl, isi_tup, isi_fl, isi_str, isi_non, cmpP_in, cmpP_nin, ixP_tup, ixP_fl, ixP_scr, Option.some.injEq, exists_eq_left', List.map_cons, List.map_nil, List.length_cons, List.length_nil, List.cons_append, List.nil_append, List.getElem?_cons_zero, List.getElem?_cons_succ, List.set_cons_zero, List.set_cons_succ, Nat.reduceAdd, Nat.reduceSub, List.replicate_succ, List.replicate_zero, List.append_nil, if_true, Bool.not_false, Bool.not_true, Bool.false_eq_true, if_false, reduceIte, last_get, last_set, h.mark, h.read, h.lmark]
    refine ⟨bl, P, mo, rfl, dr.ok, hP1, hp2, _, rfl, okR_mark _ _, ?_⟩
    have hs0 : says bl (goods bl P) mo ≠ [] := fun z => hg0 (by unfold says at z; simpa using z)
    simp only [evSs, evS, evE, evEs, evO, evT, evI, rdP, startD, asgP, wipeD, binP_add, binP_addT, binP_addF, binP_addS, binP_sub, binP_mul, binP_rep, binP_div, binP_mod, binP_pow, binP_shl, binP_shr, binP_and, cmpP_lt, cmpP_le, cmpP_gt, cmpP_ge, cmpP_eqI, cmpP_neI, biP_lenT, biP_lenF, biP_lenS, biP_abs, biP_int, biP_tupF, biP_tupT, biP_lstF, biP_lstT, biP_all, biP_any, biP_max, biP_min, biP_max2, biP_min2, walk_tup, walk_fl, seq_tup, seq_fl, boolP_bl, isi_int, isi_bl, isi_tup, isi_fl, isi_str, isi_non, cmpP_in, cmpP_nin, ixP_tup, ixP_fl, ixP_scr, Option.some.injEq, exists_eq_left', List.map_cons, List.map_nil, List.length_cons, List.length_nil, List.cons_append, List.nil_append, List.getElem?_cons_zero, List.getElem?_cons_succ, List.set_cons_zero, List.set_cons_succ, Nat.reduceAdd, Nat.reduceSub, List.replicate_succ, List.replicate_zero, List.append_nil, if_true, Bool.not_false, Bool.not_true, Bool.false_eq_true, if_false, reduceIte, last_get, last_set, gd, eL]
    refine ⟨_, at1, ?_⟩
    simp only [evSs, evS, evE, evEs, evO, evT, evI, rdP, startD, asgP, wipeD, binP_add, binP_addT, binP_addF, binP_addS, binP_sub, binP_mul, binP_rep, binP_div, binP_mod, binP_pow, binP_shl, binP_shr, binP_and, cmpP_lt, cmpP_le, cmpP_gt, cmpP_ge, cmpP_eqI, cmpP_neI, biP_lenT, biP_lenF, biP_lenS, biP_abs, biP_int, biP_tupF, biP_tupT, biP_lstF, biP_lstT, biP_all, biP_any, biP_max, biP_min, biP_max2, biP_min2, walk_tup, walk_fl, seq_tup, seq_fl, boolP_bl, isi_int, isi_bl, isi_tup, isi_fl, isi_str, isi_non, cmpP_in, cmpP_nin, ixP_tup, ixP_fl, ixP_scr, Option.some.injEq, exists_eq_left', List.map_cons, List.map_nil, List.length_cons, List.length_nil, List.cons_append, List.nil_append, List.getElem?_cons_zero, List.getElem?_cons_succ, List.set_cons_zero, List.set_cons_succ, Nat.reduceAdd, Nat.reduceSub, List.replicate_succ, List.replicate_zero, List.append_nil, if_true, Bool.not_false, Bool.not_true, Bool.false_eq_true, if_false, reduceIte, last_get, last_set]
    refine ⟨bl, goods bl P, mo, rfl, by omega, by omega, hg1, size_small (by decide), ?_⟩
    have hlast := hQ (some (.scr ns) :: some (.ref S.length) :: some (eN p) :: some (.fl (word.map eN)) :: some (eWs bl) :: some (eN P) :: some (gd (goods bl P)) :: x7 :: x8 :: x9 :: x10 :: x11 :: none :: some (eN mv) :: some (eWs (bl.map (mvB mv))) :: some (eWs (bl.map exB)) :: some x :: some (.int mo) :: some (.tup [.int 0, markV (says bl (goods bl P) mo)]) :: none :: none :: none :: none :: none :: none :: none :: none :: none :: none :: none :: none :: none :: none :: none :: none :: none :: []) (S ++ boxO a b :: ex) ⟨a, b, _, _, _, hb, rfl, rfl⟩
    have hpos : ((p : Nat) : Int) > 0 := by have := dr.p1; omega
    have hword : ∀ y, markN (says bl (goods bl P) mo) = some y → word[rs mo p]? = some y := fun y hy => mark_word dr hp1 hy
    have hsm := says_mv (b := bl) (s := mv) (mo := mo) hg1
    have hse := says_ex (b := bl) (gs := goods bl P) (mo := mo)
    have hex : markN (says (bl.map exB) (goods bl P) mo) = (markN (says bl (goods bl P) mo)).map (1 - ·) := by
      rw [hse]
      exact markN_ex fun x hx => says_lt dr.ok.m2 hx
    have hs0e : says (bl.map exB) (goods bl P) mo ≠ [] := fun z => hg0 (by unfold says at z; simpa using z)
    refine told_same (okD_mark _ _) ?_
    rw [if_neg (by decide)]
    refine ⟨_, at1, size_small (by decide), ?_⟩
    refine in01 ?_
    have hend : evSs G cst (.cons (.if_ (.cmp .NotEq (.told 15 (.call 11 (.cons (.v 14) (.cons (.v 5) (.cons (.bin .Add (.v 17) (.v 13)) .nil))))) (.v 18)) (.cons (.ret (.bl false)) (.nil)) .nil) (.cons (.if_ (.cmp .NotEq (.told 15 (.call 11 (.cons (.v 15) (.cons (.v 5) (.cons (.v 17) .nil))))) (.tup (.cons (.int 0) (.cons (.ite (.cmp .In (.ix (.v 18) (.int 1)) (.tup (.cons (.int 0) (.cons (.int 1) .nil)))) (.bin .Sub (.int 1) (.ix (.v 18) (.int 1))) (.str "perhaps")) .nil)))) (.cons (.ret (.bl false)) (.nil)) .nil) .nil)) { nx := Q, rt := endP S.length R } (some (.scr ns) :: some (.ref S.length) :: some (eN p) :: some (.fl (word.map eN)) :: some (eWs bl) :: some (eN P) :: some (gd (goods bl P)) :: x7 :: x8 :: x9 :: x10 :: x11 :: none :: some (eN mv) :: some (eWs (bl.map (mvB mv))) :: some (eWs (bl.map exB)) :: some x :: some (.int mo) :: some (.tup [.int 0, markV (says bl (goods bl P) mo)]) :: none :: none :: none :: none :: none :: none :: none :: none :: none :: none :: none :: none :: none :: none :: none :: none :: none :: []) (S ++ boxO a b :: ex) := by
      simp only [evSs, evS, evE, evEs, evO, evT, evI, rdP, startD, asgP, wipeD, binP_add, binP_addT, binP_addF, binP_addS, binP_sub, binP_mul, binP_rep, binP_div, binP_mod, binP_pow, binP_shl, binP_shr, binP_and, cmpP_lt, cmpP_le, cmpP_gt, cmpP_ge, cmpP_eqI, cmpP_neI, biP_lenT, biP_lenF, biP_lenS, biP_abs, biP_int, biP_tupF, biP_tupT, biP_lstF, biP_lstT, biP_all, biP_any, biP_max, biP_min, biP_max2, biP_min2, walk_tup, walk_fl, seq_tup, seq_fl, boolP_bl, isi_int, isi_bl, isi_tup, isi_fl, isi_str, isi_non, cmpP_in, cmpP_nin, ixP_tup, ixP_fl, ixP_scr, Option.some.injEq, exists_eq_left', List.map_cons, List.map_nil, List.length_cons, List.length_nil, List.cons_append, List.nil_append, List.getElem?_cons_zero, List.getElem?_cons_succ, List.set_cons_zero, List.set_cons_succ, Nat.reduceAdd, Nat.reduceSub, List.replicate_succ, List.replicate_zero, List.append_nil, if_true, Bool.not_false, Bool.not_true, Bool.false_eq_true, if_false, reduceIte, last_get, last_set, h.mark, h.read, eN]
      refine ⟨bl.map (mvB mv), P, mo + mv, rfl, ok1, hP1, hp2, _, rfl, okR_mark _ _, ?_⟩
      rw [hgm, hsm]
      refine told_same (okD_mark _ _) ?_
      rw [if_neg (by decide)]
      refine ⟨bl.map exB, P, mo, rfl, ok2, hP1, hp2, _, rfl, okR_mark _ _, ?_⟩
      rw [hge]
      refine ⟨_, at1, size_small (by decide), ?_⟩
      refine in01 ?_
      cases hm : markN (says bl (goods bl P) mo) with
      | none =>
        rw [hm] at hex
        rw [mark_none hex hs0e, if_neg (by decide)]
        refine ⟨size_small (by decide), told_same (okD_perhaps _) ?_⟩
        rw [if_neg (by decide)]
        exact hlast
      | some y =>
        rw [hm] at hex
        have hy := (markN_all hm).2.1
        change markN _ = some (1 - y) at hex
        rw [mark_some hex, if_pos (show (some y).isSome = true from rfl), mark_some hm]
        refine ⟨_, at1, ?_⟩
        simp only [evSs, evS, evE, evEs, evO, evT, evI, rdP, startD, asgP, wipeD, binP_add, binP_addT, binP_addF, binP_addS, binP_sub, binP_mul, binP_rep, binP_div, binP_mod, binP_pow, binP_shl, binP_shr, binP_and, cmpP_lt, cmpP_le, cmpP_gt, cmpP_ge, cmpP_eqI, cmpP_neI, biP_lenT, biP_lenF, biP_lenS, biP_abs, biP_int, biP_tupF, biP_tupT, biP_lstF, biP_lstT, biP_all, biP_any, biP_max, biP_min, biP_max2, biP_min2, walk_tup, walk_fl, seq_tup, seq_fl, boolP_bl, isi_int, isi_bl, isi_tup, isi_fl, isi_str, isi_non, cmpP_in, cmpP_nin, ixP_tup, ixP_fl, ixP_scr, Option.some.injEq, exists_eq_left', List.map_cons, List.map_nil, List.length_cons, List.length_nil, List.cons_append, List.nil_append, List.getElem?_cons_zero, List.getElem?_cons_succ, List.set_cons_zero, List.set_cons_succ, Nat.reduceAdd, Nat.reduceSub, List.replicate_succ, List.replicate_zero, List.append_nil, if_true, Bool.not_false, Bool.not_true, Bool.false_eq_true, if_false, reduceIte, last_get, last_set, eN]
        have e : (1 : Int) - (y : Nat) = ((1 - y : Nat) : Int) := by omega
        rw [e]
        refine ⟨size_small (by decide), told_same (okD_eN _ _) ?_⟩
        rw [if_neg (by decide)]
        rw [mark_some hm] at hlast
        exact hlast
    simp only [evSs, evS, evE, evEs, evO, evT, evI, rdP, startD, asgP, wipeD, binP_add, binP_addT, binP_addF, binP_addS, binP_sub, binP_mul, binP_rep, binP_div, binP_mod, binP_pow, binP_shl, binP_shr, binP_and, cmpP_lt, cmpP_le, cmpP_gt, cmpP_ge, cmpP_eqI, cmpP_neI, biP_lenT, biP_lenF, biP_lenS, biP_abs, biP_int, biP_tupF, biP_tupT, biP_lstF, biP_lstT, biP_all, biP_any, biP_max, biP_min, biP_max2, biP_min2, walk_tup, walk_fl, seq_tup, seq_fl, boolP_bl, isi_int, isi_bl, isi_tup, isi_fl, isi_str, isi_non, cmpP_in, cmpP_nin, ixP_tup, ixP_fl, ixP_scr, Option.some.injEq, exists_eq_left', List.map_cons, List.map_nil, List.length_cons, List.length_nil, List.cons_append, List.nil_append, List.getElem?_cons_zero, List.getElem?_cons_succ, List.set_cons_zero, List.set_cons_succ, Nat.reduceAdd, Nat.reduceSub, List.replicate_succ, List.replicate_zero, List.append_nil, if_true, Bool.not_false, Bool.not_true, Bool.false_eq_true, if_false, reduceIte, last_get, last_set, h.mark, h.read, eN] at hend
    cases hm : markN (says bl (goods bl P) mo) with
    | none =>
      rw [if_neg (by decide)]
      exact hend
    | some y =>
      have hw := hword y hm
      rw [if_pos (show (some y).isSome = true from rfl), mark_some hm]
      rw [mark_some hm] at hend
      refine ⟨_, at1, ?_⟩
      simp only [evSs, evS, evE, evEs, evO, evT, evI, rdP, startD, asgP, wipeD, binP_add, binP_addT, binP_addF, binP_addS, binP_sub, binP_mul, binP_rep, binP_div, binP_mod, binP_pow, binP_shl, binP_shr, binP_and, cmpP_lt, cmpP_le, cmpP_gt, cmpP_ge, cmpP_eqI, cmpP_neI, biP_lenT, biP_lenF, biP_lenS, biP_abs, biP_int, biP_tupF, biP_tupT, biP_lstF, biP_lstT, biP_all, biP_any, biP_max, biP_min, biP_max2, biP_min2, walk_tup, walk_fl, seq_tup, seq_fl, boolP_bl, isi_int, isi_bl, isi_tup, isi_fl, isi_str, isi_non, cmpP_in, cmpP_nin, ixP_tup, ixP_fl, ixP_scr, Option.some.injEq, exists_eq_left', List.map_cons, List.map_nil, List.length_cons, List.length_nil, List.cons_append, List.nil_append, List.getElem?_cons_zero, List.getElem?_cons_succ, List.set_cons_zero, List.set_cons_succ, Nat.reduceAdd, Nat.reduceSub, List.replicate_succ, List.replicate_zero, List.append_nil, if_true, Bool.not_false, Bool.not_true, Bool.false_eq_true, if_false, reduceIte, last_get, last_set, eN]
      refine ⟨by omega, ?_⟩
      rw [← rs_cast dr.p1]
      refine ⟨_, atL hw, ?_⟩
      simp only [evSs, evS, evE, evEs, evO, evT, evI, rdP, startD, asgP, wipeD, binP_add, binP_addT, binP_addF, binP_addS, binP_sub, binP_mul, binP_rep, binP_div, binP_mod, binP_pow, binP_shl, binP_shr, binP_and, cmpP_lt, cmpP_le, cmpP_gt, cmpP_ge, cmpP_eqI, cmpP_neI, biP_lenT, biP_lenF, biP_lenS, biP_abs, biP_int, biP_tupF, biP_tupT, biP_lstF, biP_lstT, biP_all, biP_any, biP_max, biP_min, biP_max2, biP_min2, walk_tup, walk_fl, seq_tup, seq_fl, boolP_bl, isi_int, isi_bl, isi_tup, isi_fl, isi_str, isi_non, cmpP_in, cmpP_nin, ixP_tup, ixP_fl, ixP_scr, Option.some.injEq, exists_eq_left', List.map_cons, List.map_nil, List.length_cons, List.length_nil, List.cons_append, List.nil_append, List.getElem?_cons_zero, List.getElem?_cons_succ, List.set_cons_zero, List.set_cons_succ, Nat.reduceAdd, Nat.reduceSub, List.replicate_succ, List.replicate_zero, List.append_nil, if_true, Bool.not_false, Bool.not_true, Bool.false_eq_true, if_false, reduceIte, last_get, last_set, eN]
      rw [if_neg (by simp)]
      exact hend
  · rintro ρ S' ⟨a, b, x16, x17, x18, hb, rfl, rfl⟩
    exact ⟨trivial, k a b x16 x17 x18 hb⟩
theorem lawE (h : HG G) (k : evSs G cst t_law_14 (endE S R) (some (.scr ns) :: some (.ref S.length) :: some (eN p) :: some (.fl (word.map eN)) :: some (eWs bl) :: some (eN P) :: some (gd (goods bl P)) :: x7 :: x8 :: x9 :: x10 :: x11 :: none :: some (eN mv) :: some (eWs (bl.map (mvB mv))) :: some (eWs (bl.map exB)) :: x16 :: x17 :: x18 :: none :: none :: none :: none :: none :: none :: none :: none :: none :: none :: none :: none :: none :: none :: none :: none :: none :: []) (S ++ boxO a b :: ex)) : evSs G cst t_law_13 (endE S R) (some (.scr ns) :: some (.ref S.length) :: some (eN p) :: some (.fl (word.map eN)) :: some (eWs bl) :: some (eN P) :: some (gd (goods bl P)) :: x7 :: x8 :: x9 :: x10 :: x11 :: none :: some (eN mv) :: some (eWs (bl.map (mvB mv))) :: some (eWs (bl.map exB)) :: x16 :: x17 :: x18 :: none :: none :: none :: none :: none :: none :: none :: none :: none :: none :: none :: none :: none :: none :: none :: none :: none :: []) (S ++ boxO a b :: ex) := by
  simp only [evSs, evS, evE, evEs, evO, evT, evI, rdP, startD, asgP, wipeD, binP_add, binP_addT, binP_addF, binP_addS, binP_sub, binP_mul, binP_rep, binP_div, binP_mod, binP_pow, binP_shl, binP_shr, binP_and, cmpP_lt, cmpP_le, cmpP_gt, cmpP_ge, cmpP_eqI, cmpP_neI, biP_lenT, biP_lenF, biP_lenS, biP_abs, biP_int, biP_tupF, biP_tupT, biP_lstF, biP_lstT, biP_all, biP_any, biP_max, biP_min, biP_max2, biP_min2, walk_tup, walk_fl, seq_tup, seq_fl, boolP_bl, isi_int, isi_bl, isi_tup, isi_fl, isi_str, isi_non, cmpP_in, cmpP_nin, ixP_tup, ixP_fl, ixP_scr, Option.some.injEq, exists_eq_left', List.map_cons, List.map_nil, List.length_cons, List.length_nil, List.cons_append, List.nil_append, List.getElem?_cons_zero, List.getElem?_cons_succ, List.set_cons_zero, List.set_cons_succ, Nat.reduceAdd, Nat.reduceSub, List.replicate_succ, List.replicate_zero, List.append_nil, if_true, Bool.not_false, Bool.not_true, Bool.false_eq_true, if_false, reduceIte, last_get, last_set, t_law_13, h.mark, h.read]
  refine ⟨size_small (by decide), size_small (by decide), size_small (by decide), [(0, 0), (1, 1)], 1, 5, rfl, ⟨by decide, by decide, by decide, by decide, by decide⟩, by decide, by decide, ?_⟩
  have e : markV (says [(0, 0), (1, 1)] (goods [(0, 0), (1, 1)] 1) 5) = .str "none" := by rfl
  rw [e]
  refine ⟨_, rfl, by simp only [okR]; decide, size_small (by decide), ?_⟩
  refine told_same (okD_none _) ?_
  rw [if_neg (by decide)]
  exact k
end K13

set_option Elab.async false
set_option linter.all false
set_option maxRecDepth 100000
set_option maxHeartbeats 1000000
/-! A10: the law, frames. -/
namespace K13
open PySem PySem.Spec PyProof.Rows L2 DL
variable {G : Nat → Option Phi} {S : Store} {R : RE} {ds : List D}

variable {ns : List Int} {ws : List Win} {a b d k : Nat} {ex : Store}
variable {x2 x3 x4 x5 x6 x7 x8 x9 x10 x11 x12 x13 x14 x15 x16 x17 x18 x19 x20 x21 x22 x23 x24 x25 x26 x27 x28 x29 x30 x31 x32 x33 x34 x35 : Option D}
theorem fr_small (ok : OkW ws) {F : List Nat} (h : framesF ws d = some F) : F.length ≤ 1001 := by
  obtain ⟨h1, _, h3, _⟩ := framesF_spec ok.le h
  refine fr_len (inc_nodup h1) fun x hx => ?_
  obtain ⟨w, hw, _, h5⟩ := h3 x hx
  have := ok.lt w hw
  omega
theorem ap_small (ok : OkW ws) : (apartF ws).length ≤ 40 := by
  unfold apartF
  rw [sortN_length]
  have := runA_len ws (srtA ws) ([], 0)
  rw [(srtA_perm ws).length_eq, List.length_range, List.length_nil] at this
  have := ok.nm
  omega
theorem ap_inc (ok : OkW ws) : Inc (apartF ws) := sortN_inc (apart_spec ok).2.2.1
theorem ap_lt (ok : OkW ws) {i : Nat} (h : i ∈ apartF ws) : i < ws.length := (apart_spec ok).2.1 i (sortN_mem.mp h)
theorem okR_eO {o : Option (List Nat)} (h : ∀ l, o = some l → l.length ≤ 1000000) (k : Nat) : okR (eO o) (k + 1) = true := by
  cases o with
  | none => simp only [eO, okR]
  | some l => exact okR_eL (h l rfl) k
theorem is_none {S : Store} {o : Option (List Nat)} {B : Bool → Prop} (h : B o.isNone) : cmpP S .Is (eO o) .non B := by
  cases o <;> exact h
theorem isnt_none {S : Store} {o : Option (List Nat)} {B : Bool → Prop} (h : B o.isSome) : cmpP S .IsNot (eO o) .non B := by
  cases o <;> exact h
theorem lawF (h : HG G) (hb : b ≤ 2147483647)
    (k : ∀ ws a b x20 x21 x22 x23, OkW ws → (∀ w ∈ ws, w.2 ≤ 998) → b ≤ 2147483647 → evSs G cst t_law_20 (endE S R) (some (.scr ns) :: some (.ref S.length) :: x2 :: x3 :: x4 :: x5 :: x6 :: x7 :: x8 :: x9 :: x10 :: x11 :: x12 :: x13 :: x14 :: x15 :: x16 :: x17 :: x18 :: some (eWs ws) :: x20 :: x21 :: x22 :: x23 :: none :: none :: none :: none :: none :: none :: none :: none :: none :: none :: none :: none :: []) (S ++ boxO a b :: ex)) :
    evSs G cst t_law_14 (endE S R) (some (.scr ns) :: some (.ref S.length) :: x2 :: x3 :: x4 :: x5 :: x6 :: x7 :: x8 :: x9 :: x10 :: x11 :: x12 :: x13 :: x14 :: x15 :: x16 :: x17 :: x18 :: none :: none :: none :: none :: none :: none :: none :: none :: none :: none :: none :: none :: none :: none :: none :: none :: none :: []) (S ++ boxO a b :: ex) := by
  simp only [evSs, evS, evE, evEs, evO, evT, evI, rdP, startD, asgP, wipeD, binP_add, binP_addT, binP_addF, binP_addS, binP_sub, binP_mul, binP_rep, binP_div, binP_mod, binP_pow, binP_shl, binP_shr, binP_and, cmpP_lt, cmpP_le, cmpP_gt, cmpP_ge, cmpP_eqI, cmpP_neI, biP_lenT, biP_lenF, biP_lenS, biP_abs, biP_int, biP_tupF, biP_tupT, biP_lstF, biP_lstT, biP_all, biP_any, biP_max, biP_min, biP_max2, biP_min2, walk_tup, walk_fl, seq_tup, seq_fl, boolP_bl, isi_int, isi_bl, isi_tup, isi_fl, isi_str, isi_non, cmpP_in, cmpP_nin, ixP_tup, ixP_fl, ixP_scr, Option.some.injEq, exists_eq_left', List.map_cons, List.map_nil, List.length_cons, List.length_nil, List.cons_append, List.nil_append, List.getElem?_cons_zero, List.getElem?_cons_succ, List.set_cons_zero, List.set_cons_succ, Nat.reduceAdd, Nat.reduceSub, List.replicate_succ, List.replicate_zero, List.append_nil, if_true, Bool.not_false, Bool.not_true, Bool.false_eq_true, if_false, reduceIte, last_get, last_set, t_law_14, h.lwindows]
  refine ⟨S.length, a, b, rfl, last_get _ _ _, hb, fun ws a b ok hw hb => ?_⟩
  rw [last_set]
  have n1 := ok.n1
  have nm := ok.nm
  obtain ⟨F, hF⟩ : ∃ F, framesF ws 1 = some F := by
    cases hF : framesF ws 1 with
    | some F => exact ⟨F, rfl⟩
    | none =>
      obtain ⟨w, hw1, hw2⟩ := (framesF_none ok.le).mp hF
      have := ok.le w hw1
      omega
  have hFl := fr_small ok hF
  have hAl := ap_small ok
  have hlen := apart_len ok hF
  simp only [evSs, evS, evE, evEs, evO, evT, evI, rdP, startD, asgP, wipeD, binP_add, binP_addT, binP_addF, binP_addS, binP_sub, binP_mul, binP_rep, binP_div, binP_mod, binP_pow, binP_shl, binP_shr, binP_and, cmpP_lt, cmpP_le, cmpP_gt, cmpP_ge, cmpP_eqI, cmpP_neI, biP_lenT, biP_lenF, biP_lenS, biP_abs, biP_int, biP_tupF, biP_tupT, biP_lstF, biP_lstT, biP_all, biP_any, biP_max, biP_min, biP_max2, biP_min2, walk_tup, walk_fl, seq_tup, seq_fl, boolP_bl, isi_int, isi_bl, isi_tup, isi_fl, isi_str, isi_non, cmpP_in, cmpP_nin, ixP_tup, ixP_fl, ixP_scr, Option.some.injEq, exists_eq_left', List.map_cons, List.map_nil, List.length_cons, List.length_nil, List.cons_append, List.nil_append, List.getElem?_cons_zero, List.getElem?_cons_succ, List.set_cons_zero, List.set_cons_succ, Nat.reduceAdd, Nat.reduceSub, List.replicate_succ, List.replicate_zero, List.append_nil, if_true, Bool.not_false, Bool.not_true, Bool.false_eq_true, if_false, reduceIte, last_get, last_set, t_law_15, h.frames, h.read]
  refine ⟨ws, 1, rfl, ok, by decide, by decide, ?_⟩
  rw [hF]
  refine ⟨_, rfl, okR_eL (by omega) _, ?_⟩
  simp only [evSs, evS, evE, evEs, evO, evT, evI, rdP, startD, asgP, wipeD, binP_add, binP_addT, binP_addF, binP_addS, binP_sub, binP_mul, binP_rep, binP_div, binP_mod, binP_pow, binP_shl, binP_shr, binP_and, cmpP_lt, cmpP_le, cmpP_gt, cmpP_ge, cmpP_eqI, cmpP_neI, biP_lenT, biP_lenF, biP_lenS, biP_abs, biP_int, biP_tupF, biP_tupT, biP_lstF, biP_lstT, biP_all, biP_any, biP_max, biP_min, biP_max2, biP_min2, walk_tup, walk_fl, seq_tup, seq_fl, boolP_bl, isi_int, isi_bl, isi_tup, isi_fl, isi_str, isi_non, cmpP_in, cmpP_nin, ixP_tup, ixP_fl, ixP_scr, Option.some.injEq, exists_eq_left', List.map_cons, List.map_nil, List.length_cons, List.length_nil, List.cons_append, List.nil_append, List.getElem?_cons_zero, List.getElem?_cons_succ, List.set_cons_zero, List.set_cons_succ, Nat.reduceAdd, Nat.reduceSub, List.replicate_succ, List.replicate_zero, List.append_nil, if_true, Bool.not_false, Bool.not_true, Bool.false_eq_true, if_false, reduceIte, last_get, last_set, t_law_16, h.apart, h.read]
  refine ⟨ws, rfl, ok, _, rfl, okR_eL (by omega) _, ?_⟩
  simp only [evSs, evS, evE, evEs, evO, evT, evI, rdP, startD, asgP, wipeD, binP_add, binP_addT, binP_addF, binP_addS, binP_sub, binP_mul, binP_rep, binP_div, binP_mod, binP_pow, binP_shl, binP_shr, binP_and, cmpP_lt, cmpP_le, cmpP_gt, cmpP_ge, cmpP_eqI, cmpP_neI, biP_lenT, biP_lenF, biP_lenS, biP_abs, biP_int, biP_tupF, biP_tupT, biP_lstF, biP_lstT, biP_all, biP_any, biP_max, biP_min, biP_max2, biP_min2, walk_tup, walk_fl, seq_tup, seq_fl, boolP_bl, isi_int, isi_bl, isi_tup, isi_fl, isi_str, isi_non, cmpP_in, cmpP_nin, ixP_tup, ixP_fl, ixP_scr, Option.some.injEq, exists_eq_left', List.map_cons, List.map_nil, List.length_cons, List.length_nil, List.cons_append, List.nil_append, List.getElem?_cons_zero, List.getElem?_cons_succ, List.set_cons_zero, List.set_cons_succ, Nat.reduceAdd, Nat.reduceSub, List.replicate_succ, List.replicate_zero, List.append_nil, if_true, Bool.not_false, Bool.not_true, Bool.false_eq_true, if_false, reduceIte, last_get, last_set, t_law_17, eL]
  refine ⟨_, at0, _, at0, ?_⟩
  simp only [evSs, evS, evE, evEs, evO, evT, evI, rdP, startD, asgP, wipeD, binP_add, binP_addT, binP_addF, binP_addS, binP_sub, binP_mul, binP_rep, binP_div, binP_mod, binP_pow, binP_shl, binP_shr, binP_and, cmpP_lt, cmpP_le, cmpP_gt, cmpP_ge, cmpP_eqI, cmpP_neI, biP_lenT, biP_lenF, biP_lenS, biP_abs, biP_int, biP_tupF, biP_tupT, biP_lstF, biP_lstT, biP_all, biP_any, biP_max, biP_min, biP_max2, biP_min2, walk_tup, walk_fl, seq_tup, seq_fl, boolP_bl, isi_int, isi_bl, isi_tup, isi_fl, isi_str, isi_non, cmpP_in, cmpP_nin, ixP_tup, ixP_fl, ixP_scr, Option.some.injEq, exists_eq_left', List.map_cons, List.map_nil, List.length_cons, List.length_nil, List.cons_append, List.nil_append, List.getElem?_cons_zero, List.getElem?_cons_succ, List.set_cons_zero, List.set_cons_succ, Nat.reduceAdd, Nat.reduceSub, List.replicate_succ, List.replicate_zero, List.append_nil, if_true, Bool.not_false, Bool.not_true, Bool.false_eq_true, if_false, reduceIte, last_get, last_set]
  rw [if_neg (by decide)]
  refine ⟨_, at1, is_none (o := some F) ?_⟩
  rw [if_neg (show ¬ (some F).isNone = true from fun z => by cases z)]
  refine ⟨_, at1, ?_⟩
  simp only [evSs, evS, evE, evEs, evO, evT, evI, rdP, startD, asgP, wipeD, binP_add, binP_addT, binP_addF, binP_addS, binP_sub, binP_mul, binP_rep, binP_div, binP_mod, binP_pow, binP_shl, binP_shr, binP_and, cmpP_lt, cmpP_le, cmpP_gt, cmpP_ge, cmpP_eqI, cmpP_neI, biP_lenT, biP_lenF, biP_lenS, biP_abs, biP_int, biP_tupF, biP_tupT, biP_lstF, biP_lstT, biP_all, biP_any, biP_max, biP_min, biP_max2, biP_min2, walk_tup, walk_fl, seq_tup, seq_fl, boolP_bl, isi_int, isi_bl, isi_tup, isi_fl, isi_str, isi_non, cmpP_in, cmpP_nin, ixP_tup, ixP_fl, ixP_scr, Option.some.injEq, exists_eq_left', List.map_cons, List.map_nil, List.length_cons, List.length_nil, List.cons_append, List.nil_append, List.getElem?_cons_zero, List.getElem?_cons_succ, List.set_cons_zero, List.set_cons_succ, Nat.reduceAdd, Nat.reduceSub, List.replicate_succ, List.replicate_zero, List.append_nil, if_true, Bool.not_false, Bool.not_true, Bool.false_eq_true, if_false, reduceIte, last_get, last_set, eO, eL]
  refine ⟨_, at1, ?_⟩
  simp only [evSs, evS, evE, evEs, evO, evT, evI, rdP, startD, asgP, wipeD, binP_add, binP_addT, binP_addF, binP_addS, binP_sub, binP_mul, binP_rep, binP_div, binP_mod, binP_pow, binP_shl, binP_shr, binP_and, cmpP_lt, cmpP_le, cmpP_gt, cmpP_ge, cmpP_eqI, cmpP_neI, biP_lenT, biP_lenF, biP_lenS, biP_abs, biP_int, biP_tupF, biP_tupT, biP_lstF, biP_lstT, biP_all, biP_any, biP_max, biP_min, biP_max2, biP_min2, walk_tup, walk_fl, seq_tup, seq_fl, boolP_bl, isi_int, isi_bl, isi_tup, isi_fl, isi_str, isi_non, cmpP_in, cmpP_nin, ixP_tup, ixP_fl, ixP_scr, Option.some.injEq, exists_eq_left', List.map_cons, List.map_nil, List.length_cons, List.length_nil, List.cons_append, List.nil_append, List.getElem?_cons_zero, List.getElem?_cons_succ, List.set_cons_zero, List.set_cons_succ, Nat.reduceAdd, Nat.reduceSub, List.replicate_succ, List.replicate_zero, List.append_nil, if_true, Bool.not_false, Bool.not_true, Bool.false_eq_true, if_false, reduceIte, last_get, last_set]
  rw [List.length_map, List.length_map, hlen, if_neg (by simp)]
  refine ⟨_, at1, ?_⟩
  simp only [evSs, evS, evE, evEs, evO, evT, evI, rdP, startD, asgP, wipeD, binP_add, binP_addT, binP_addF, binP_addS, binP_sub, binP_mul, binP_rep, binP_div, binP_mod, binP_pow, binP_shl, binP_shr, binP_and, cmpP_lt, cmpP_le, cmpP_gt, cmpP_ge, cmpP_eqI, cmpP_neI, biP_lenT, biP_lenF, biP_lenS, biP_abs, biP_int, biP_tupF, biP_tupT, biP_lstF, biP_lstT, biP_all, biP_any, biP_max, biP_min, biP_max2, biP_min2, walk_tup, walk_fl, seq_tup, seq_fl, boolP_bl, isi_int, isi_bl, isi_tup, isi_fl, isi_str, isi_non, cmpP_in, cmpP_nin, ixP_tup, ixP_fl, ixP_scr, Option.some.injEq, exists_eq_left', List.map_cons, List.map_nil, List.length_cons, List.length_nil, List.cons_append, List.nil_append, List.getElem?_cons_zero, List.getElem?_cons_succ, List.set_cons_zero, List.set_cons_succ, Nat.reduceAdd, Nat.reduceSub, List.replicate_succ, List.replicate_zero, List.append_nil, if_true, Bool.not_false, Bool.not_true, Bool.false_eq_true, if_false, reduceIte, last_get, last_set]
  refine ⟨_, at1, ?_⟩
  refine ⟨_, _, rfl, ints_eN _, by rw [List.length_map]; omega, ?_⟩
  rw [set_inc (ap_inc ok)]
  refine cmpP_neOf (okD_flN _ _) (okD_flN _ _) (qv_self _ _ (okD_flN _ 59)) ?_
  rw [if_neg (by decide)]
  simp only [evSs, evS, evE, evEs, evO, evT, evI, rdP, startD, asgP, wipeD, binP_add, binP_addT, binP_addF, binP_addS, binP_sub, binP_mul, binP_rep, binP_div, binP_mod, binP_pow, binP_shl, binP_shr, binP_and, cmpP_lt, cmpP_le, cmpP_gt, cmpP_ge, cmpP_eqI, cmpP_neI, biP_lenT, biP_lenF, biP_lenS, biP_abs, biP_int, biP_tupF, biP_tupT, biP_lstF, biP_lstT, biP_all, biP_any, biP_max, biP_min, biP_max2, biP_min2, walk_tup, walk_fl, seq_tup, seq_fl, boolP_bl, isi_int, isi_bl, isi_tup, isi_fl, isi_str, isi_non, cmpP_in, cmpP_nin, ixP_tup, ixP_fl, ixP_scr, Option.some.injEq, exists_eq_left', List.map_cons, List.map_nil, List.length_cons, List.length_nil, List.cons_append, List.nil_append, List.getElem?_cons_zero, List.getElem?_cons_succ, List.set_cons_zero, List.set_cons_succ, Nat.reduceAdd, Nat.reduceSub, List.replicate_succ, List.replicate_zero, List.append_nil, if_true, Bool.not_false, Bool.not_true, Bool.false_eq_true, if_false, reduceIte, last_get, last_set, t_law_18]
  refine ⟨_, at1, ?_⟩
  refine ⟨_, rfl, ?_⟩
  refine mapP_all eN (fun i => eP (wat ws i)) (apartF ws) rfl (fun i hi Q hQ => ?_) (fun z => z) (by omega) ?_
  · simp only [evSs, evS, evE, evEs, evO, evT, evI, rdP, startD, asgP, wipeD, binP_add, binP_addT, binP_addF, binP_addS, binP_sub, binP_mul, binP_rep, binP_div, binP_mod, binP_pow, binP_shl, binP_shr, binP_and, cmpP_lt, cmpP_le, cmpP_gt, cmpP_ge, cmpP_eqI, cmpP_neI, biP_lenT, biP_lenF, biP_lenS, biP_abs, biP_int, biP_tupF, biP_tupT, biP_lstF, biP_lstT, biP_all, biP_any, biP_max, biP_min, biP_max2, biP_min2, walk_tup, walk_fl, seq_tup, seq_fl, boolP_bl, isi_int, isi_bl, isi_tup, isi_fl, isi_str, isi_non, cmpP_in, cmpP_nin, ixP_tup, ixP_fl, ixP_scr, Option.some.injEq, exists_eq_left', List.map_cons, List.map_nil, List.length_cons, List.length_nil, List.cons_append, List.nil_append, List.getElem?_cons_zero, List.getElem?_cons_succ, List.set_cons_zero, List.set_cons_succ, Nat.reduceAdd, Nat.reduceSub, List.replicate_succ, List.replicate_zero, List.append_nil, if_true, Bool.not_false, Bool.not_true, Bool.false_eq_true, if_false, reduceIte, last_get, last_set, eWs, eN]
    exact ⟨_, atM (wat_get (ap_lt ok hi)), hQ⟩
  · have e : ((apartF ws).map fun i => eP (wat ws i)) = ((apartF ws).map (wat ws)).map eP := by rw [List.map_map]; rfl
    rw [e]
    refine ⟨_, rfl, fun d hd => by obtain ⟨t, _, rfl⟩ := List.mem_map.mp hd; rfl, ?_⟩
    refine srtP_congr (kf := fun d => .tuple [.int (((decP d).1 : Nat) : Int), .int (((decP d).2 : Nat) : Int)]) (fun d hd => by obtain ⟨t, _, rfl⟩ := List.mem_map.mp hd; rfl) ?_
    refine srtP_ii eP decP decP_eP (fun t => ((t.1 : Nat) : Int)) (fun t => ((t.2 : Nat) : Int)) (size_small (by rw [List.length_map]; omega)) ?_
    have hrows := apart_rows ok (fun (p q : Nat × Nat) => decide (((p.1 : Nat) : Int) < ((q.1 : Nat) : Int) ∨ (((p.1 : Nat) : Int) = ((q.1 : Nat) : Int) ∧ ((p.2 : Nat) : Int) ≤ ((q.2 : Nat) : Int)))) (fun _ _ => rfl)
    have hperm := (List.mergeSort_perm ((apartF ws).map (wat ws)) (fun (p q : Nat × Nat) => decide (((p.1 : Nat) : Int) < ((q.1 : Nat) : Int) ∨ (((p.1 : Nat) : Int) = ((q.1 : Nat) : Int) ∧ ((p.2 : Nat) : Int) ≤ ((q.2 : Nat) : Int))))).length_eq
    rw [List.length_map] at hperm
    revert hrows hperm
    generalize ((apartF ws).map (wat ws)).mergeSort _ = rows
    intro hrows hperm
    simp only [evSs, evS, evE, evEs, evO, evT, evI, rdP, startD, asgP, wipeD, binP_add, binP_addT, binP_addF, binP_addS, binP_sub, binP_mul, binP_rep, binP_div, binP_mod, binP_pow, binP_shl, binP_shr, binP_and, cmpP_lt, cmpP_le, cmpP_gt, cmpP_ge, cmpP_eqI, cmpP_neI, biP_lenT, biP_lenF, biP_lenS, biP_abs, biP_int, biP_tupF, biP_tupT, biP_lstF, biP_lstT, biP_all, biP_any, biP_max, biP_min, biP_max2, biP_min2, walk_tup, walk_fl, seq_tup, seq_fl, boolP_bl, isi_int, isi_bl, isi_tup, isi_fl, isi_str, isi_non, cmpP_in, cmpP_nin, ixP_tup, ixP_fl, ixP_scr, Option.some.injEq, exists_eq_left', List.map_cons, List.map_nil, List.length_cons, List.length_nil, List.cons_append, List.nil_append, List.getElem?_cons_zero, List.getElem?_cons_succ, List.set_cons_zero, List.set_cons_succ, Nat.reduceAdd, Nat.reduceSub, List.replicate_succ, List.replicate_zero, List.append_nil, if_true, Bool.not_false, Bool.not_true, Bool.false_eq_true, if_false, reduceIte, last_get, last_set, t_law_19]
    rw [List.length_map]
    refine ⟨⟨by omega, by omega, by omega, by omega⟩, ?_⟩
    refine mapP_flt (fun i : Nat => D.int (1 + (i : Nat))) (fun _ => false) (fun i : Nat => D.int (1 + (i : Nat))) (List.range ((rows.length : Int) - 1).toNat) rfl (fun i hx Q hQ => ?_) trivial (by rw [List.length_range]; omega) ?_
    · rw [List.mem_range] at hx
      have g1 : rows[i]? = some rows[i] := List.getElem?_eq_getElem (by omega)
      have g2 : rows[i + 1]? = some rows[i + 1] := List.getElem?_eq_getElem (by omega)
      simp only [evSs, evS, evE, evEs, evO, evT, evI, rdP, startD, asgP, wipeD, binP_add, binP_addT, binP_addF, binP_addS, binP_sub, binP_mul, binP_rep, binP_div, binP_mod, binP_pow, binP_shl, binP_shr, binP_and, cmpP_lt, cmpP_le, cmpP_gt, cmpP_ge, cmpP_eqI, cmpP_neI, biP_lenT, biP_lenF, biP_lenS, biP_abs, biP_int, biP_tupF, biP_tupT, biP_lstF, biP_lstT, biP_all, biP_any, biP_max, biP_min, biP_max2, biP_min2, walk_tup, walk_fl, seq_tup, seq_fl, boolP_bl, isi_int, isi_bl, isi_tup, isi_fl, isi_str, isi_non, cmpP_in, cmpP_nin, ixP_tup, ixP_fl, ixP_scr, Option.some.injEq, exists_eq_left', List.map_cons, List.map_nil, List.length_cons, List.length_nil, List.cons_append, List.nil_append, List.getElem?_cons_zero, List.getElem?_cons_succ, List.set_cons_zero, List.set_cons_succ, Nat.reduceAdd, Nat.reduceSub, List.replicate_succ, List.replicate_zero, List.append_nil, if_true, Bool.not_false, Bool.not_true, Bool.false_eq_true, if_false, reduceIte, last_get, last_set]
      rw [show (1 : Int) + (i : Nat) - 1 = ((i : Nat) : Int) by omega, show (1 : Int) + (i : Nat) = ((i + 1 : Nat) : Int) by omega]
      refine ⟨_, atM g2, ?_⟩
      simp only [evSs, evS, evE, evEs, evO, evT, evI, rdP, startD, asgP, wipeD, binP_add, binP_addT, binP_addF, binP_addS, binP_sub, binP_mul, binP_rep, binP_div, binP_mod, binP_pow, binP_shl, binP_shr, binP_and, cmpP_lt, cmpP_le, cmpP_gt, cmpP_ge, cmpP_eqI, cmpP_neI, biP_lenT, biP_lenF, biP_lenS, biP_abs, biP_int, biP_tupF, biP_tupT, biP_lstF, biP_lstT, biP_all, biP_any, biP_max, biP_min, biP_max2, biP_min2, walk_tup, walk_fl, seq_tup, seq_fl, boolP_bl, isi_int, isi_bl, isi_tup, isi_fl, isi_str, isi_non, cmpP_in, cmpP_nin, ixP_tup, ixP_fl, ixP_scr, Option.some.injEq, exists_eq_left', List.map_cons, List.map_nil, List.length_cons, List.length_nil, List.cons_append, List.nil_append, List.getElem?_cons_zero, List.getElem?_cons_succ, List.set_cons_zero, List.set_cons_succ, Nat.reduceAdd, Nat.reduceSub, List.replicate_succ, List.replicate_zero, List.append_nil, if_true, Bool.not_false, Bool.not_true, Bool.false_eq_true, if_false, reduceIte, last_get, last_set, eP]
      refine ⟨_, at0, _, atM g1, ?_⟩
      simp only [evSs, evS, evE, evEs, evO, evT, evI, rdP, startD, asgP, wipeD, binP_add, binP_addT, binP_addF, binP_addS, binP_sub, binP_mul, binP_rep, binP_div, binP_mod, binP_pow, binP_shl, binP_shr, binP_and, cmpP_lt, cmpP_le, cmpP_gt, cmpP_ge, cmpP_eqI, cmpP_neI, biP_lenT, biP_lenF, biP_lenS, biP_abs, biP_int, biP_tupF, biP_tupT, biP_lstF, biP_lstT, biP_all, biP_any, biP_max, biP_min, biP_max2, biP_min2, walk_tup, walk_fl, seq_tup, seq_fl, boolP_bl, isi_int, isi_bl, isi_tup, isi_fl, isi_str, isi_non, cmpP_in, cmpP_nin, ixP_tup, ixP_fl, ixP_scr, Option.some.injEq, exists_eq_left', List.map_cons, List.map_nil, List.length_cons, List.length_nil, List.cons_append, List.nil_append, List.getElem?_cons_zero, List.getElem?_cons_succ, List.set_cons_zero, List.set_cons_succ, Nat.reduceAdd, Nat.reduceSub, List.replicate_succ, List.replicate_zero, List.append_nil, if_true, Bool.not_false, Bool.not_true, Bool.false_eq_true, if_false, reduceIte, last_get, last_set, eP]
      refine ⟨_, at1, ?_⟩
      simp only [evSs, evS, evE, evEs, evO, evT, evI, rdP, startD, asgP, wipeD, binP_add, binP_addT, binP_addF, binP_addS, binP_sub, binP_mul, binP_rep, binP_div, binP_mod, binP_pow, binP_shl, binP_shr, binP_and, cmpP_lt, cmpP_le, cmpP_gt, cmpP_ge, cmpP_eqI, cmpP_neI, biP_lenT, biP_lenF, biP_lenS, biP_abs, biP_int, biP_tupF, biP_tupT, biP_lstF, biP_lstT, biP_all, biP_any, biP_max, biP_min, biP_max2, biP_min2, walk_tup, walk_fl, seq_tup, seq_fl, boolP_bl, isi_int, isi_bl, isi_tup, isi_fl, isi_str, isi_non, cmpP_in, cmpP_nin, ixP_tup, ixP_fl, ixP_scr, Option.some.injEq, exists_eq_left', List.map_cons, List.map_nil, List.length_cons, List.length_nil, List.cons_append, List.nil_append, List.getElem?_cons_zero, List.getElem?_cons_succ, List.set_cons_zero, List.set_cons_succ, Nat.reduceAdd, Nat.reduceSub, List.replicate_succ, List.replicate_zero, List.append_nil, if_true, Bool.not_false, Bool.not_true, Bool.false_eq_true, if_false, reduceIte, last_get, last_set, eN]
      have := List.pairwise_iff_getElem.mp hrows i (i + 1) (by omega) (by omega) (by omega)
      rw [if_neg (by rw [decide_eq_false (by omega)]; decide)]
      exact hQ
    · rw [List.filter_eq_nil_iff.mpr (fun _ _ z => by cases z)]
      refine ⟨size_small (by decide), ?_⟩
      refine cmpP_neOf (okD_flN [] _) (okD_flN [] _) (qv_fl_nil []) ?_
      rw [if_neg (by decide)]
      exact k ws a b _ _ _ _ ok hw hb
theorem minI_lt {c : Int} : ∀ {l : List Int}, l ≠ [] → (minI l < c ↔ ∃ i ∈ l, i < c)
  | [], h => absurd rfl h
  | [i], _ => by simp [minI]
  | i :: j :: r, _ => by
    have ih := minI_lt (c := c) (l := j :: r) (by simp)
    have e : minI (i :: j :: r) = if i ≤ minI (j :: r) then i else minI (j :: r) := rfl
    rw [e]
    constructor
    · intro h
      split at h
      · exact ⟨i, List.mem_cons_self, h⟩
      · obtain ⟨y, hy, hlt⟩ := ih.mp h
        exact ⟨y, List.mem_cons_of_mem _ hy, hlt⟩
    · rintro ⟨y, hy, hlt⟩
      rcases List.mem_cons.mp hy with rfl | hy2
      · split <;> omega
      · have := ih.mpr ⟨y, hy2, hlt⟩
        split <;> omega
theorem narrow_iff (ok : OkW ws) : decide (minI (ws.map fun w => (w.2 : Int) - (w.1 : Int) + 1) < (d : Int)) = (framesF ws d).isNone := by
  have n1 := ok.n1
  have hne : (ws.map fun w => (w.2 : Int) - (w.1 : Int) + 1) ≠ [] := fun z => by
    rw [List.map_eq_nil_iff] at z
    rw [z] at n1
    cases n1
  rw [Bool.eq_iff_iff, decide_eq_true_iff, minI_lt hne, Option.isNone_iff_eq_none, framesF_none ok.le]
  constructor
  · rintro ⟨i, hi, hlt⟩
    obtain ⟨w, hw, rfl⟩ := List.mem_map.mp hi
    have := ok.le w hw
    exact ⟨w, hw, by omega⟩
  · rintro ⟨w, hw, hlt⟩
    exact ⟨_, List.mem_map.mpr ⟨w, hw, rfl⟩, by have := ok.le w hw; omega⟩
theorem lawG (h : HG G) (ok : OkW ws) (hb : b ≤ 2147483647)
    (kk : ∀ d k a b x28, 1 ≤ d → d ≤ 8 → 1 ≤ k → k ≤ 6 → b ≤ 2147483647 → evSs G cst t_law_25 (endE S R) (some (.scr ns) :: some (.ref S.length) :: x2 :: x3 :: x4 :: x5 :: x6 :: x7 :: x8 :: x9 :: x10 :: x11 :: x12 :: x13 :: x14 :: x15 :: x16 :: x17 :: x18 :: some (eWs ws) :: x20 :: x21 :: x22 :: x23 :: some (eN d) :: some (eN k) :: some (.tup [.int 0, eO (framesF ws d)]) :: some (.tup [.int 0, eO (framesF ws (d + k))]) :: x28 :: none :: none :: none :: none :: none :: none :: none :: []) (S ++ boxO a b :: ex)) :
    evSs G cst t_law_20 (endE S R) (some (.scr ns) :: some (.ref S.length) :: x2 :: x3 :: x4 :: x5 :: x6 :: x7 :: x8 :: x9 :: x10 :: x11 :: x12 :: x13 :: x14 :: x15 :: x16 :: x17 :: x18 :: some (eWs ws) :: x20 :: x21 :: x22 :: x23 :: none :: none :: none :: none :: none :: none :: none :: none :: none :: none :: none :: none :: []) (S ++ boxO a b :: ex) := by
  have n1 := ok.n1
  have nm := ok.nm
  simp only [evSs, evS, evE, evEs, evO, evT, evI, rdP, startD, asgP, wipeD, binP_add, binP_addT, binP_addF, binP_addS, binP_sub, binP_mul, binP_rep, binP_div, binP_mod, binP_pow, binP_shl, binP_shr, binP_and, cmpP_lt, cmpP_le, cmpP_gt, cmpP_ge, cmpP_eqI, cmpP_neI, biP_lenT, biP_lenF, biP_lenS, biP_abs, biP_int, biP_tupF, biP_tupT, biP_lstF, biP_lstT, biP_all, biP_any, biP_max, biP_min, biP_max2, biP_min2, walk_tup, walk_fl, seq_tup, seq_fl, boolP_bl, isi_int, isi_bl, isi_tup, isi_fl, isi_str, isi_non, cmpP_in, cmpP_nin, ixP_tup, ixP_fl, ixP_scr, Option.some.injEq, exists_eq_left', List.map_cons, List.map_nil, List.length_cons, List.length_nil, List.cons_append, List.nil_append, List.getElem?_cons_zero, List.getElem?_cons_succ, List.set_cons_zero, List.set_cons_succ, Nat.reduceAdd, Nat.reduceSub, List.replicate_succ, List.replicate_zero, List.append_nil, if_true, Bool.not_false, Bool.not_true, Bool.false_eq_true, if_false, reduceIte, last_get, last_set, t_law_20, h.draw]
  refine draw_e 8 hb (by decide) (by decide) fun d0 a b hd0 hb => ?_
  simp only [evSs, evS, evE, evEs, evO, evT, evI, rdP, startD, asgP, wipeD, binP_add, binP_addT, binP_addF, binP_addS, binP_sub, binP_mul, binP_rep, binP_div, binP_mod, binP_pow, binP_shl, binP_shr, binP_and, cmpP_lt, cmpP_le, cmpP_gt, cmpP_ge, cmpP_eqI, cmpP_neI, biP_lenT, biP_lenF, biP_lenS, biP_abs, biP_int, biP_tupF, biP_tupT, biP_lstF, biP_lstT, biP_all, biP_any, biP_max, biP_min, biP_max2, biP_min2, walk_tup, walk_fl, seq_tup, seq_fl, boolP_bl, isi_int, isi_bl, isi_tup, isi_fl, isi_str, isi_non, cmpP_in, cmpP_nin, ixP_tup, ixP_fl, ixP_scr, Option.some.injEq, exists_eq_left', List.map_cons, List.map_nil, List.length_cons, List.length_nil, List.cons_append, List.nil_append, List.getElem?_cons_zero, List.getElem?_cons_succ, List.set_cons_zero, List.set_cons_succ, Nat.reduceAdd, Nat.reduceSub, List.replicate_succ, List.replicate_zero, List.append_nil, if_true, Bool.not_false, Bool.not_true, Bool.false_eq_true, if_false, reduceIte, last_get, last_set, eN]
  refine draw_e 6 hb (by decide) (by decide) fun k0 a b hk0 hb => ?_
  simp only [evSs, evS, evE, evEs, evO, evT, evI, rdP, startD, asgP, wipeD, binP_add, binP_addT, binP_addF, binP_addS, binP_sub, binP_mul, binP_rep, binP_div, binP_mod, binP_pow, binP_shl, binP_shr, binP_and, cmpP_lt, cmpP_le, cmpP_gt, cmpP_ge, cmpP_eqI, cmpP_neI, biP_lenT, biP_lenF, biP_lenS, biP_abs, biP_int, biP_tupF, biP_tupT, biP_lstF, biP_lstT, biP_all, biP_any, biP_max, biP_min, biP_max2, biP_min2, walk_tup, walk_fl, seq_tup, seq_fl, boolP_bl, isi_int, isi_bl, isi_tup, isi_fl, isi_str, isi_non, cmpP_in, cmpP_nin, ixP_tup, ixP_fl, ixP_scr, Option.some.injEq, exists_eq_left', List.map_cons, List.map_nil, List.length_cons, List.length_nil, List.cons_append, List.nil_append, List.getElem?_cons_zero, List.getElem?_cons_succ, List.set_cons_zero, List.set_cons_succ, Nat.reduceAdd, Nat.reduceSub, List.replicate_succ, List.replicate_zero, List.append_nil, if_true, Bool.not_false, Bool.not_true, Bool.false_eq_true, if_false, reduceIte, last_get, last_set, eN]
  have e1 : (1 : Int) + (d0 : Nat) = ((1 + d0 : Nat) : Int) := by omega
  have e2 : (1 : Int) + (k0 : Nat) = ((1 + k0 : Nat) : Int) := by omega
  rw [e1, e2]
  generalize hd : 1 + d0 = d
  generalize hk : 1 + k0 = k
  refine ⟨size_small (by decide), ?_⟩
  have sm : ∀ d l, framesF ws d = some l → l.length ≤ 1000000 := fun d l hl => by have := fr_small ok hl; omega
  simp only [evSs, evS, evE, evEs, evO, evT, evI, rdP, startD, asgP, wipeD, binP_add, binP_addT, binP_addF, binP_addS, binP_sub, binP_mul, binP_rep, binP_div, binP_mod, binP_pow, binP_shl, binP_shr, binP_and, cmpP_lt, cmpP_le, cmpP_gt, cmpP_ge, cmpP_eqI, cmpP_neI, biP_lenT, biP_lenF, biP_lenS, biP_abs, biP_int, biP_tupF, biP_tupT, biP_lstF, biP_lstT, biP_all, biP_any, biP_max, biP_min, biP_max2, biP_min2, walk_tup, walk_fl, seq_tup, seq_fl, boolP_bl, isi_int, isi_bl, isi_tup, isi_fl, isi_str, isi_non, cmpP_in, cmpP_nin, ixP_tup, ixP_fl, ixP_scr, Option.some.injEq, exists_eq_left', List.map_cons, List.map_nil, List.length_cons, List.length_nil, List.cons_append, List.nil_append, List.getElem?_cons_zero, List.getElem?_cons_succ, List.set_cons_zero, List.set_cons_succ, Nat.reduceAdd, Nat.reduceSub, List.replicate_succ, List.replicate_zero, List.append_nil, if_true, Bool.not_false, Bool.not_true, Bool.false_eq_true, if_false, reduceIte, last_get, last_set, t_law_21, h.frames, h.read]
  refine ⟨ws, d, rfl, ok, by omega, by omega, _, rfl, okR_eO (sm d) _, ?_⟩
  simp only [evSs, evS, evE, evEs, evO, evT, evI, rdP, startD, asgP, wipeD, binP_add, binP_addT, binP_addF, binP_addS, binP_sub, binP_mul, binP_rep, binP_div, binP_mod, binP_pow, binP_shl, binP_shr, binP_and, cmpP_lt, cmpP_le, cmpP_gt, cmpP_ge, cmpP_eqI, cmpP_neI, biP_lenT, biP_lenF, biP_lenS, biP_abs, biP_int, biP_tupF, biP_tupT, biP_lstF, biP_lstT, biP_all, biP_any, biP_max, biP_min, biP_max2, biP_min2, walk_tup, walk_fl, seq_tup, seq_fl, boolP_bl, isi_int, isi_bl, isi_tup, isi_fl, isi_str, isi_non, cmpP_in, cmpP_nin, ixP_tup, ixP_fl, ixP_scr, Option.some.injEq, exists_eq_left', List.map_cons, List.map_nil, List.length_cons, List.length_nil, List.cons_append, List.nil_append, List.getElem?_cons_zero, List.getElem?_cons_succ, List.set_cons_zero, List.set_cons_succ, Nat.reduceAdd, Nat.reduceSub, List.replicate_succ, List.replicate_zero, List.append_nil, if_true, Bool.not_false, Bool.not_true, Bool.false_eq_true, if_false, reduceIte, last_get, last_set, t_law_22, h.frames, h.read]
  have e3 : ((d : Nat) : Int) + (k : Nat) = ((d + k : Nat) : Int) := by omega
  rw [e3]
  refine ⟨ws, d + k, rfl, ok, by omega, by omega, _, rfl, okR_eO (sm (d + k)) _, ?_⟩
  simp only [evSs, evS, evE, evEs, evO, evT, evI, rdP, startD, asgP, wipeD, binP_add, binP_addT, binP_addF, binP_addS, binP_sub, binP_mul, binP_rep, binP_div, binP_mod, binP_pow, binP_shl, binP_shr, binP_and, cmpP_lt, cmpP_le, cmpP_gt, cmpP_ge, cmpP_eqI, cmpP_neI, biP_lenT, biP_lenF, biP_lenS, biP_abs, biP_int, biP_tupF, biP_tupT, biP_lstF, biP_lstT, biP_all, biP_any, biP_max, biP_min, biP_max2, biP_min2, walk_tup, walk_fl, seq_tup, seq_fl, boolP_bl, isi_int, isi_bl, isi_tup, isi_fl, isi_str, isi_non, cmpP_in, cmpP_nin, ixP_tup, ixP_fl, ixP_scr, Option.some.injEq, exists_eq_left', List.map_cons, List.map_nil, List.length_cons, List.length_nil, List.cons_append, List.nil_append, List.getElem?_cons_zero, List.getElem?_cons_succ, List.set_cons_zero, List.set_cons_succ, Nat.reduceAdd, Nat.reduceSub, List.replicate_succ, List.replicate_zero, List.append_nil, if_true, Bool.not_false, Bool.not_true, Bool.false_eq_true, if_false, reduceIte, last_get, last_set, t_law_23, eWs]
  refine mapP_all eP (fun w => D.int ((w.2 : Int) - (w.1 : Int) + 1)) ws rfl (fun x hx Q hQ => ?_) (fun z => z) (by omega) ?_
  · simp only [evSs, evS, evE, evEs, evO, evT, evI, rdP, startD, asgP, wipeD, binP_add, binP_addT, binP_addF, binP_addS, binP_sub, binP_mul, binP_rep, binP_div, binP_mod, binP_pow, binP_shl, binP_shr, binP_and, cmpP_lt, cmpP_le, cmpP_gt, cmpP_ge, cmpP_eqI, cmpP_neI, biP_lenT, biP_lenF, biP_lenS, biP_abs, biP_int, biP_tupF, biP_tupT, biP_lstF, biP_lstT, biP_all, biP_any, biP_max, biP_min, biP_max2, biP_min2, walk_tup, walk_fl, seq_tup, seq_fl, boolP_bl, isi_int, isi_bl, isi_tup, isi_fl, isi_str, isi_non, cmpP_in, cmpP_nin, ixP_tup, ixP_fl, ixP_scr, Option.some.injEq, exists_eq_left', List.map_cons, List.map_nil, List.length_cons, List.length_nil, List.cons_append, List.nil_append, List.getElem?_cons_zero, List.getElem?_cons_succ, List.set_cons_zero, List.set_cons_succ, Nat.reduceAdd, Nat.reduceSub, List.replicate_succ, List.replicate_zero, List.append_nil, if_true, Bool.not_false, Bool.not_true, Bool.false_eq_true, if_false, reduceIte, last_get, last_set, eP, eN]
    exact hQ
  · refine ⟨_, DL.ints_map (f := fun w : Win => (w.2 : Int) - (w.1 : Int) + 1) (fun _ => rfl) ws, by rw [List.length_map]; omega, ?_⟩
    simp only [evSs, evS, evE, evEs, evO, evT, evI, rdP, startD, asgP, wipeD, binP_add, binP_addT, binP_addF, binP_addS, binP_sub, binP_mul, binP_rep, binP_div, binP_mod, binP_pow, binP_shl, binP_shr, binP_and, cmpP_lt, cmpP_le, cmpP_gt, cmpP_ge, cmpP_eqI, cmpP_neI, biP_lenT, biP_lenF, biP_lenS, biP_abs, biP_int, biP_tupF, biP_tupT, biP_lstF, biP_lstT, biP_all, biP_any, biP_max, biP_min, biP_max2, biP_min2, walk_tup, walk_fl, seq_tup, seq_fl, boolP_bl, isi_int, isi_bl, isi_tup, isi_fl, isi_str, isi_non, cmpP_in, cmpP_nin, ixP_tup, ixP_fl, ixP_scr, Option.some.injEq, exists_eq_left', List.map_cons, List.map_nil, List.length_cons, List.length_nil, List.cons_append, List.nil_append, List.getElem?_cons_zero, List.getElem?_cons_succ, List.set_cons_zero, List.set_cons_succ, Nat.reduceAdd, Nat.reduceSub, List.replicate_succ, List.replicate_zero, List.append_nil, if_true, Bool.not_false, Bool.not_true, Bool.false_eq_true, if_false, reduceIte, last_get, last_set, t_law_24]
    refine ⟨_, at0, _, at0, ?_⟩
    simp only [evSs, evS, evE, evEs, evO, evT, evI, rdP, startD, asgP, wipeD, binP_add, binP_addT, binP_addF, binP_addS, binP_sub, binP_mul, binP_rep, binP_div, binP_mod, binP_pow, binP_shl, binP_shr, binP_and, cmpP_lt, cmpP_le, cmpP_gt, cmpP_ge, cmpP_eqI, cmpP_neI, biP_lenT, biP_lenF, biP_lenS, biP_abs, biP_int, biP_tupF, biP_tupT, biP_lstF, biP_lstT, biP_all, biP_any, biP_max, biP_min, biP_max2, biP_min2, walk_tup, walk_fl, seq_tup, seq_fl, boolP_bl, isi_int, isi_bl, isi_tup, isi_fl, isi_str, isi_non, cmpP_in, cmpP_nin, ixP_tup, ixP_fl, ixP_scr, Option.some.injEq, exists_eq_left', List.map_cons, List.map_nil, List.length_cons, List.length_nil, List.cons_append, List.nil_append, List.getElem?_cons_zero, List.getElem?_cons_succ, List.set_cons_zero, List.set_cons_succ, Nat.reduceAdd, Nat.reduceSub, List.replicate_succ, List.replicate_zero, List.append_nil, if_true, Bool.not_false, Bool.not_true, Bool.false_eq_true, if_false, reduceIte, last_get, last_set]
    rw [if_neg (by decide)]
    refine ⟨_, at1, is_none ?_⟩
    rw [narrow_iff ok]
    refine cmpP_neOf (okD_bl _ _) (okD_bl _ _) (qv_bl _ _) ?_
    rw [decide_eq_true rfl, if_neg (by decide)]
    refine ⟨_, at1, is_none ?_⟩
    rw [e3, narrow_iff ok]
    refine cmpP_neOf (okD_bl _ _) (okD_bl _ _) (qv_bl _ _) ?_
    rw [decide_eq_true rfl, if_neg (by decide)]
    exact kk d k a b _ (by omega) (by omega) (by omega) (by omega) hb
theorem lawH (h : HG G) (ok : OkW ws) (hb : b ≤ 2147483647) (hd1 : 1 ≤ d) (hd2 : d ≤ 8) (hk1 : 1 ≤ k) (hk2 : k ≤ 6)
    (kk : ∀ a b x31 x32 x33, b ≤ 2147483647 → evSs G cst t_law_26 (endE S R) (some (.scr ns) :: some (.ref S.length) :: x2 :: x3 :: x4 :: x5 :: x6 :: x7 :: x8 :: x9 :: x10 :: x11 :: x12 :: x13 :: x14 :: x15 :: x16 :: x17 :: x18 :: some (eWs ws) :: x20 :: x21 :: x22 :: x23 :: some (eN d) :: some (eN k) :: some (.tup [.int 0, eO (framesF ws d)]) :: some (.tup [.int 0, eO (framesF ws (d + k))]) :: x28 :: none :: none :: x31 :: x32 :: x33 :: none :: none :: []) (S ++ boxO a b :: ex)) :
    evSs G cst t_law_25 (endE S R) (some (.scr ns) :: some (.ref S.length) :: x2 :: x3 :: x4 :: x5 :: x6 :: x7 :: x8 :: x9 :: x10 :: x11 :: x12 :: x13 :: x14 :: x15 :: x16 :: x17 :: x18 :: some (eWs ws) :: x20 :: x21 :: x22 :: x23 :: some (eN d) :: some (eN k) :: some (.tup [.int 0, eO (framesF ws d)]) :: some (.tup [.int 0, eO (framesF ws (d + k))]) :: x28 :: none :: none :: none :: none :: none :: none :: none :: []) (S ++ boxO a b :: ex) := by
  have n1 := ok.n1
  have nm := ok.nm
  simp only [evSs, evS, evE, evEs, evO, evT, evI, rdP, startD, asgP, wipeD, binP_add, binP_addT, binP_addF, binP_addS, binP_sub, binP_mul, binP_rep, binP_div, binP_mod, binP_pow, binP_shl, binP_shr, binP_and, cmpP_lt, cmpP_le, cmpP_gt, cmpP_ge, cmpP_eqI, cmpP_neI, biP_lenT, biP_lenF, biP_lenS, biP_abs, biP_int, biP_tupF, biP_tupT, biP_lstF, biP_lstT, biP_all, biP_any, biP_max, biP_min, biP_max2, biP_min2, walk_tup, walk_fl, seq_tup, seq_fl, boolP_bl, isi_int, isi_bl, isi_tup, isi_fl, isi_str, isi_non, cmpP_in, cmpP_nin, ixP_tup, ixP_fl, ixP_scr, Option.some.injEq, exists_eq_left', List.map_cons, List.map_nil, List.length_cons, List.length_nil, List.cons_append, List.nil_append, List.getElem?_cons_zero, List.getElem?_cons_succ, List.set_cons_zero, List.set_cons_succ, Nat.reduceAdd, Nat.reduceSub, List.replicate_succ, List.replicate_zero, List.append_nil, if_true, Bool.not_false, Bool.not_true, Bool.false_eq_true, if_false, reduceIte, last_get, last_set, t_law_25]
  refine ⟨_, at1, isnt_none ?_⟩
  cases hF' : framesF ws (d + k) with
  | none =>
    rw [if_neg (by decide)]
    rw [hF'] at kk
    exact kk a b _ _ _ hb
  | some F' =>
    rw [if_pos (show (some F').isSome = true from rfl)]
    obtain ⟨F0, hF⟩ : ∃ F0, framesF ws d = some F0 := by
      cases hF : framesF ws d with
      | some F0 => exact ⟨F0, rfl⟩
      | none =>
        obtain ⟨w, hw1, hw2⟩ := (framesF_none ok.le).mp hF
        have : framesF ws (d + k) = none := (framesF_none ok.le).mpr ⟨w, hw1, by omega⟩
        rw [hF'] at this
        cases this
    rw [hF] at kk ⊢
    rw [hF'] at kk
    have hFl := fr_small ok hF
    have hFl' := fr_small ok hF'
    have hmore := framesF_more ok hF hF'
    obtain ⟨s1, s2, s3, _⟩ := framesF_spec ok.le hF'
    refine ⟨_, at1, ?_⟩
    simp only [evSs, evS, evE, evEs, evO, evT, evI, rdP, startD, asgP, wipeD, binP_add, binP_addT, binP_addF, binP_addS, binP_sub, binP_mul, binP_rep, binP_div, binP_mod, binP_pow, binP_shl, binP_shr, binP_and, cmpP_lt, cmpP_le, cmpP_gt, cmpP_ge, cmpP_eqI, cmpP_neI, biP_lenT, biP_lenF, biP_lenS, biP_abs, biP_int, biP_tupF, biP_tupT, biP_lstF, biP_lstT, biP_all, biP_any, biP_max, biP_min, biP_max2, biP_min2, walk_tup, walk_fl, seq_tup, seq_fl, boolP_bl, isi_int, isi_bl, isi_tup, isi_fl, isi_str, isi_non, cmpP_in, cmpP_nin, ixP_tup, ixP_fl, ixP_scr, Option.some.injEq, exists_eq_left', List.map_cons, List.map_nil, List.length_cons, List.length_nil, List.cons_append, List.nil_append, List.getElem?_cons_zero, List.getElem?_cons_succ, List.set_cons_zero, List.set_cons_succ, Nat.reduceAdd, Nat.reduceSub, List.replicate_succ, List.replicate_zero, List.append_nil, if_true, Bool.not_false, Bool.not_true, Bool.false_eq_true, if_false, reduceIte, last_get, last_set, eO, eL]
    refine ⟨_, at1, ?_⟩
    simp only [evSs, evS, evE, evEs, evO, evT, evI, rdP, startD, asgP, wipeD, binP_add, binP_addT, binP_addF, binP_addS, binP_sub, binP_mul, binP_rep, binP_div, binP_mod, binP_pow, binP_shl, binP_shr, binP_and, cmpP_lt, cmpP_le, cmpP_gt, cmpP_ge, cmpP_eqI, cmpP_neI, biP_lenT, biP_lenF, biP_lenS, biP_abs, biP_int, biP_tupF, biP_tupT, biP_lstF, biP_lstT, biP_all, biP_any, biP_max, biP_min, biP_max2, biP_min2, walk_tup, walk_fl, seq_tup, seq_fl, boolP_bl, isi_int, isi_bl, isi_tup, isi_fl, isi_str, isi_non, cmpP_in, cmpP_nin, ixP_tup, ixP_fl, ixP_scr, Option.some.injEq, exists_eq_left', List.map_cons, List.map_nil, List.length_cons, List.length_nil, List.cons_append, List.nil_append, List.getElem?_cons_zero, List.getElem?_cons_succ, List.set_cons_zero, List.set_cons_succ, Nat.reduceAdd, Nat.reduceSub, List.replicate_succ, List.replicate_zero, List.append_nil, if_true, Bool.not_false, Bool.not_true, Bool.false_eq_true, if_false, reduceIte, last_get, last_set, eN]
    rw [List.length_map, List.length_map, if_neg (by rw [decide_eq_false (by omega)]; decide)]
    refine ⟨_, at1, ?_⟩
    simp only [evSs, evS, evE, evEs, evO, evT, evI, rdP, startD, asgP, wipeD, binP_add, binP_addT, binP_addF, binP_addS, binP_sub, binP_mul, binP_rep, binP_div, binP_mod, binP_pow, binP_shl, binP_shr, binP_and, cmpP_lt, cmpP_le, cmpP_gt, cmpP_ge, cmpP_eqI, cmpP_neI, biP_lenT, biP_lenF, biP_lenS, biP_abs, biP_int, biP_tupF, biP_tupT, biP_lstF, biP_lstT, biP_all, biP_any, biP_max, biP_min, biP_max2, biP_min2, walk_tup, walk_fl, seq_tup, seq_fl, boolP_bl, isi_int, isi_bl, isi_tup, isi_fl, isi_str, isi_non, cmpP_in, cmpP_nin, ixP_tup, ixP_fl, ixP_scr, Option.some.injEq, exists_eq_left', List.map_cons, List.map_nil, List.length_cons, List.length_nil, List.cons_append, List.nil_append, List.getElem?_cons_zero, List.getElem?_cons_succ, List.set_cons_zero, List.set_cons_succ, Nat.reduceAdd, Nat.reduceSub, List.replicate_succ, List.replicate_zero, List.append_nil, if_true, Bool.not_false, Bool.not_true, Bool.false_eq_true, if_false, reduceIte, last_get, last_set]
    refine ⟨_, at1, ?_⟩
    refine ⟨_, _, rfl, ints_eN _, by rw [List.length_map]; omega, ?_⟩
    rw [set_inc s1]
    refine cmpP_neOf (okD_flN _ _) (okD_flN _ _) (qv_self _ _ (okD_flN _ 59)) ?_
    rw [if_neg (by decide)]
    refine ⟨by omega, by omega, ?_⟩
    refine mapP_draws (fun a b => (S ++ boxO a b :: ex)) eN (fun d => ∃ r, r < 1001 ∧ d = eN r) (List.range k) (by rw [Int.toNat_natCast, rgD_zero]) (by rw [List.length_range]; omega) hb (fun x _ a b hb Q hQ => ?_) (fun _ _ => trivial) (fun rs a b hrs hlen hb => ?_)
    · refine ⟨_, at1, ?_⟩
      simp only [evSs, evS, evE, evEs, evO, evT, evI, rdP, startD, asgP, wipeD, binP_add, binP_addT, binP_addF, binP_addS, binP_sub, binP_mul, binP_rep, binP_div, binP_mod, binP_pow, binP_shl, binP_shr, binP_and, cmpP_lt, cmpP_le, cmpP_gt, cmpP_ge, cmpP_eqI, cmpP_neI, biP_lenT, biP_lenF, biP_lenS, biP_abs, biP_int, biP_tupF, biP_tupT, biP_lstF, biP_lstT, biP_all, biP_any, biP_max, biP_min, biP_max2, biP_min2, walk_tup, walk_fl, seq_tup, seq_fl, boolP_bl, isi_int, isi_bl, isi_tup, isi_fl, isi_str, isi_non, cmpP_in, cmpP_nin, ixP_tup, ixP_fl, ixP_scr, Option.some.injEq, exists_eq_left', List.map_cons, List.map_nil, List.length_cons, List.length_nil, List.cons_append, List.nil_append, List.getElem?_cons_zero, List.getElem?_cons_succ, List.set_cons_zero, List.set_cons_succ, Nat.reduceAdd, Nat.reduceSub, List.replicate_succ, List.replicate_zero, List.append_nil, if_true, Bool.not_false, Bool.not_true, Bool.false_eq_true, if_false, reduceIte, last_get, last_set, h.draw]
      refine ⟨_, at1, ?_⟩
      simp only [evSs, evS, evE, evEs, evO, evT, evI, rdP, startD, asgP, wipeD, binP_add, binP_addT, binP_addF, binP_addS, binP_sub, binP_mul, binP_rep, binP_div, binP_mod, binP_pow, binP_shl, binP_shr, binP_and, cmpP_lt, cmpP_le, cmpP_gt, cmpP_ge, cmpP_eqI, cmpP_neI, biP_lenT, biP_lenF, biP_lenS, biP_abs, biP_int, biP_tupF, biP_tupT, biP_lstF, biP_lstT, biP_all, biP_any, biP_max, biP_min, biP_max2, biP_min2, walk_tup, walk_fl, seq_tup, seq_fl, boolP_bl, isi_int, isi_bl, isi_tup, isi_fl, isi_str, isi_non, cmpP_in, cmpP_nin, ixP_tup, ixP_fl, ixP_scr, Option.some.injEq, exists_eq_left', List.map_cons, List.map_nil, List.length_cons, List.length_nil, List.cons_append, List.nil_append, List.getElem?_cons_zero, List.getElem?_cons_succ, List.set_cons_zero, List.set_cons_succ, Nat.reduceAdd, Nat.reduceSub, List.replicate_succ, List.replicate_zero, List.append_nil, if_true, Bool.not_false, Bool.not_true, Bool.false_eq_true, if_false, reduceIte, last_get, last_set]
      rw [List.length_map]
      refine draw_e F'.length hb (by omega) (by omega) fun r a b hr hb => ?_
      simp only [evSs, evS, evE, evEs, evO, evT, evI, rdP, startD, asgP, wipeD, binP_add, binP_addT, binP_addF, binP_addS, binP_sub, binP_mul, binP_rep, binP_div, binP_mod, binP_pow, binP_shl, binP_shr, binP_and, cmpP_lt, cmpP_le, cmpP_gt, cmpP_ge, cmpP_eqI, cmpP_neI, biP_lenT, biP_lenF, biP_lenS, biP_abs, biP_int, biP_tupF, biP_tupT, biP_lstF, biP_lstT, biP_all, biP_any, biP_max, biP_min, biP_max2, biP_min2, walk_tup, walk_fl, seq_tup, seq_fl, boolP_bl, isi_int, isi_bl, isi_tup, isi_fl, isi_str, isi_non, cmpP_in, cmpP_nin, ixP_tup, ixP_fl, ixP_scr, Option.some.injEq, exists_eq_left', List.map_cons, List.map_nil, List.length_cons, List.length_nil, List.cons_append, List.nil_append, List.getElem?_cons_zero, List.getElem?_cons_succ, List.set_cons_zero, List.set_cons_succ, Nat.reduceAdd, Nat.reduceSub, List.replicate_succ, List.replicate_zero, List.append_nil, if_true, Bool.not_false, Bool.not_true, Bool.false_eq_true, if_false, reduceIte, last_get, last_set, eN]
      refine ⟨_, atL (List.getElem?_eq_getElem hr), ?_⟩
      refine hQ _ a b hb ⟨F'[r], ?_, rfl⟩
      obtain ⟨w, hw, _, h5⟩ := s3 F'[r] (List.getElem_mem _)
      have := ok.lt w hw
      omega
    · obtain ⟨C, rfl, _⟩ := nats_of hrs
      rw [List.length_map, List.length_range] at hlen
      refine ⟨_, at1, ?_⟩
      refine ⟨_, rfl, ?_⟩
      refine mapP_flt eN (fun m => !C.contains m) eN F' rfl (fun m hm Q hQ => ?_) (fun z => z) (by omega) ?_
      · refine inP_flN ?_
        cases hc : !C.contains m with
        | false => rw [hc] at hQ; exact hQ
        | true => rw [hc] at hQ; exact hQ
      · have hcnt : ∀ w ∈ ws, d ≤ cntW (F'.filter fun m => !C.contains m) w := fun w hw => by
          have h1 := cnt_without (C := C) (inc_nodup s1) (w := w)
          have h2 := s2 w hw
          omega
        have hll : (F'.filter fun m => !C.contains m).length ≤ 1001 := Nat.le_trans (List.length_filter_le _ _) hFl'
        revert hcnt hll
        generalize (F'.filter fun m => !C.contains m) = left
        intro hcnt hll
        simp only [evSs, evS, evE, evEs, evO, evT, evI, rdP, startD, asgP, wipeD, binP_add, binP_addT, binP_addF, binP_addS, binP_sub, binP_mul, binP_rep, binP_div, binP_mod, binP_pow, binP_shl, binP_shr, binP_and, cmpP_lt, cmpP_le, cmpP_gt, cmpP_ge, cmpP_eqI, cmpP_neI, biP_lenT, biP_lenF, biP_lenS, biP_abs, biP_int, biP_tupF, biP_tupT, biP_lstF, biP_lstT, biP_all, biP_any, biP_max, biP_min, biP_max2, biP_min2, walk_tup, walk_fl, seq_tup, seq_fl, boolP_bl, isi_int, isi_bl, isi_tup, isi_fl, isi_str, isi_non, cmpP_in, cmpP_nin, ixP_tup, ixP_fl, ixP_scr, Option.some.injEq, exists_eq_left', List.map_cons, List.map_nil, List.length_cons, List.length_nil, List.cons_append, List.nil_append, List.getElem?_cons_zero, List.getElem?_cons_succ, List.set_cons_zero, List.set_cons_succ, Nat.reduceAdd, Nat.reduceSub, List.replicate_succ, List.replicate_zero, List.append_nil, if_true, Bool.not_false, Bool.not_true, Bool.false_eq_true, if_false, reduceIte, last_get, last_set, eWs]
        refine mapP_flt eP (fun w => decide (cntW left w < d)) eP ws rfl (fun w hw Q hQ => ?_) (fun z => z) (by omega) ?_
        · refine mapP_flt eN (inW w) eN left rfl (fun x hx Q3 hQ3 => ?_) (fun z => z) (by omega) ?_
          · simp only [evSs, evS, evE, evEs, evO, evT, evI, rdP, startD, asgP, wipeD, binP_add, binP_addT, binP_addF, binP_addS, binP_sub, binP_mul, binP_rep, binP_div, binP_mod, binP_pow, binP_shl, binP_shr, binP_and, cmpP_lt, cmpP_le, cmpP_gt, cmpP_ge, cmpP_eqI, cmpP_neI, biP_lenT, biP_lenF, biP_lenS, biP_abs, biP_int, biP_tupF, biP_tupT, biP_lstF, biP_lstT, biP_all, biP_any, biP_max, biP_min, biP_max2, biP_min2, walk_tup, walk_fl, seq_tup, seq_fl, boolP_bl, isi_int, isi_bl, isi_tup, isi_fl, isi_str, isi_non, cmpP_in, cmpP_nin, ixP_tup, ixP_fl, ixP_scr, Option.some.injEq, exists_eq_left', List.map_cons, List.map_nil, List.length_cons, List.length_nil, List.cons_append, List.nil_append, List.getElem?_cons_zero, List.getElem?_cons_succ, List.set_cons_zero, List.set_cons_succ, Nat.reduceAdd, Nat.reduceSub, List.replicate_succ, List.replicate_zero, List.append_nil, if_true, Bool.not_false, Bool.not_true, Bool.false_eq_true, if_false, reduceIte, last_get, last_set, eP]
            refine ⟨_, at0, ?_⟩
            simp only [evSs, evS, evE, evEs, evO, evT, evI, rdP, startD, asgP, wipeD, binP_add, binP_addT, binP_addF, binP_addS, binP_sub, binP_mul, binP_rep, binP_div, binP_mod, binP_pow, binP_shl, binP_shr, binP_and, cmpP_lt, cmpP_le, cmpP_gt, cmpP_ge, cmpP_eqI, cmpP_neI, biP_lenT, biP_lenF, biP_lenS, biP_abs, biP_int, biP_tupF, biP_tupT, biP_lstF, biP_lstT, biP_all, biP_any, biP_max, biP_min, biP_max2, biP_min2, walk_tup, walk_fl, seq_tup, seq_fl, boolP_bl, isi_int, isi_bl, isi_tup, isi_fl, isi_str, isi_non, cmpP_in, cmpP_nin, ixP_tup, ixP_fl, ixP_scr, Option.some.injEq, exists_eq_left', List.map_cons, List.map_nil, List.length_cons, List.length_nil, List.cons_append, List.nil_append, List.getElem?_cons_zero, List.getElem?_cons_succ, List.set_cons_zero, List.set_cons_succ, Nat.reduceAdd, Nat.reduceSub, List.replicate_succ, List.replicate_zero, List.append_nil, if_true, Bool.not_false, Bool.not_true, Bool.false_eq_true, if_false, reduceIte, last_get, last_set, eN]
            unfold inW at hQ3
            by_cases a1 : w.1 ≤ x
            · rw [if_pos (decide_eq_true (show (w.1 : Int) ≤ (x : Int) by omega))]
              rw [decide_eq_true a1, Bool.true_and] at hQ3
              refine ⟨_, at1, ?_⟩
              simp only [evSs, evS, evE, evEs, evO, evT, evI, rdP, startD, asgP, wipeD, binP_add, binP_addT, binP_addF, binP_addS, binP_sub, binP_mul, binP_rep, binP_div, binP_mod, binP_pow, binP_shl, binP_shr, binP_and, cmpP_lt, cmpP_le, cmpP_gt, cmpP_ge, cmpP_eqI, cmpP_neI, biP_lenT, biP_lenF, biP_lenS, biP_abs, biP_int, biP_tupF, biP_tupT, biP_lstF, biP_lstT, biP_all, biP_any, biP_max, biP_min, biP_max2, biP_min2, walk_tup, walk_fl, seq_tup, seq_fl, boolP_bl, isi_int, isi_bl, isi_tup, isi_fl, isi_str, isi_non, cmpP_in, cmpP_nin, ixP_tup, ixP_fl, ixP_scr, Option.some.injEq, exists_eq_left', List.map_cons, List.map_nil, List.length_cons, List.length_nil, List.cons_append, List.nil_append, List.getElem?_cons_zero, List.getElem?_cons_succ, List.set_cons_zero, List.set_cons_succ, Nat.reduceAdd, Nat.reduceSub, List.replicate_succ, List.replicate_zero, List.append_nil, if_true, Bool.not_false, Bool.not_true, Bool.false_eq_true, if_false, reduceIte, last_get, last_set]
              have e : decide ((x : Int) ≤ (w.2 : Int)) = decide (x ≤ w.2) := by rw [decide_eq_decide]; omega
              rw [e]
              cases hb2 : decide (x ≤ w.2) with
              | true => rw [hb2] at hQ3; exact hQ3
              | false => rw [hb2] at hQ3; exact hQ3
            · rw [if_neg (by rw [decide_eq_false (by omega)]; decide)]
              rw [decide_eq_false a1, Bool.false_and] at hQ3
              exact hQ3
          · have := hcnt w hw
            rw [List.length_map]
            rw [decide_eq_false (show ¬ cntW left w < d by omega), if_neg (by decide)] at hQ
            unfold cntW at this
            rw [decide_eq_false (by omega)]
            exact hQ
        · have hnil : ws.filter (fun w => decide (cntW left w < d)) = [] := by
            rw [List.filter_eq_nil_iff]
            intro w hw z
            have := hcnt w hw
            have := of_decide_eq_true z
            omega
          rw [hnil]
          refine ⟨size_small (by decide), ?_⟩
          refine cmpP_neOf (okD_flN [] _) (okD_flN [] _) (qv_fl_nil []) ?_
          rw [if_neg (by decide)]
          exact kk a b _ _ _ hb
theorem lawI (h : HG G) (hc : closed S) (ok : OkW ws) (hw : ∀ w ∈ ws, w.2 ≤ 998) (hb : b ≤ 2147483647) (hd1 : 1 ≤ d) (hd2 : d ≤ 8) (hR : R (.bl true) S) :
    evSs G cst t_law_26 (endE S R) (some (.scr ns) :: some (.ref S.length) :: x2 :: x3 :: x4 :: x5 :: x6 :: x7 :: x8 :: x9 :: x10 :: x11 :: x12 :: x13 :: x14 :: x15 :: x16 :: x17 :: x18 :: some (eWs ws) :: x20 :: x21 :: x22 :: x23 :: some (eN d) :: some (eN k) :: some (.tup [.int 0, eO (framesF ws d)]) :: some (.tup [.int 0, eO (framesF ws (d + k))]) :: x28 :: none :: none :: x31 :: x32 :: x33 :: none :: none :: []) (S ++ boxO a b :: ex) := by
  have n1 := ok.n1
  have nm := ok.nm
  simp only [evSs, evS, evE, evEs, evO, evT, evI, rdP, startD, asgP, wipeD, binP_add, binP_addT, binP_addF, binP_addS, binP_sub, binP_mul, binP_rep, binP_div, binP_mod, binP_pow, binP_shl, binP_shr, binP_and, cmpP_lt, cmpP_le, cmpP_gt, cmpP_ge, cmpP_eqI, cmpP_neI, biP_lenT, biP_lenF, biP_lenS, biP_abs, biP_int, biP_tupF, biP_tupT, biP_lstF, biP_lstT, biP_all, biP_any, biP_max, biP_min, biP_max2, biP_min2, walk_tup, walk_fl, seq_tup, seq_fl, boolP_bl, isi_int, isi_bl, isi_tup, isi_fl, isi_str, isi_non, cmpP_in, cmpP_nin, ixP_tup, ixP_fl, ixP_scr, Option.some.injEq, exists_eq_left', List.map_cons, List.map_nil, List.length_cons, List.length_nil, List.cons_append, List.nil_append, List.getElem?_cons_zero, List.getElem?_cons_succ, List.set_cons_zero, List.set_cons_succ, Nat.reduceAdd, Nat.reduceSub, List.replicate_succ, List.replicate_zero, List.append_nil, if_true, Bool.not_false, Bool.not_true, Bool.false_eq_true, if_false, reduceIte, last_get, last_set, t_law_26, h.draw]
  refine draw_e 2 hb (by decide) (by decide) fun s a b hs hb => ?_
  have fin : endP S.length R (.bl true) (S ++ boxO a b :: ex) := endP_drop (Nat.le_refl _) hc rfl hR
  have ok' : OkW (ws.map (mvW s)) := ⟨by rw [List.length_map]; exact n1, by rw [List.length_map]; exact nm, fun w hw' => by
      obtain ⟨v, hv, rfl⟩ := List.mem_map.mp hw'
      have := ok.le v hv
      show v.1 + s ≤ v.2 + s
      omega, fun w hw' => by
      obtain ⟨v, hv, rfl⟩ := List.mem_map.mp hw'
      have := hw v hv
      show v.2 + s ≤ 1000
      omega⟩
  simp only [evSs, evS, evE, evEs, evO, evT, evI, rdP, startD, asgP, wipeD, binP_add, binP_addT, binP_addF, binP_addS, binP_sub, binP_mul, binP_rep, binP_div, binP_mod, binP_pow, binP_shl, binP_shr, binP_and, cmpP_lt, cmpP_le, cmpP_gt, cmpP_ge, cmpP_eqI, cmpP_neI, biP_lenT, biP_lenF, biP_lenS, biP_abs, biP_int, biP_tupF, biP_tupT, biP_lstF, biP_lstT, biP_all, biP_any, biP_max, biP_min, biP_max2, biP_min2, walk_tup, walk_fl, seq_tup, seq_fl, boolP_bl, isi_int, isi_bl, isi_tup, isi_fl, isi_str, isi_non, cmpP_in, cmpP_nin, ixP_tup, ixP_fl, ixP_scr, Option.some.injEq, exists_eq_left', List.map_cons, List.map_nil, List.length_cons, List.length_nil, List.cons_append, List.nil_append, List.getElem?_cons_zero, List.getElem?_cons_succ, List.set_cons_zero, List.set_cons_succ, Nat.reduceAdd, Nat.reduceSub, List.replicate_succ, List.replicate_zero, List.append_nil, if_true, Bool.not_false, Bool.not_true, Bool.false_eq_true, if_false, reduceIte, last_get, last_set, t_law_27, eWs]
  refine mapP_all eP (fun w => eP (mvW s w)) ws rfl (fun x hx Q hQ => ?_) (fun z => z) (by omega) ?_
  · simp only [evSs, evS, evE, evEs, evO, evT, evI, rdP, startD, asgP, wipeD, binP_add, binP_addT, binP_addF, binP_addS, binP_sub, binP_mul, binP_rep, binP_div, binP_mod, binP_pow, binP_shl, binP_shr, binP_and, cmpP_lt, cmpP_le, cmpP_gt, cmpP_ge, cmpP_eqI, cmpP_neI, biP_lenT, biP_lenF, biP_lenS, biP_abs, biP_int, biP_tupF, biP_tupT, biP_lstF, biP_lstT, biP_all, biP_any, biP_max, biP_min, biP_max2, biP_min2, walk_tup, walk_fl, seq_tup, seq_fl, boolP_bl, isi_int, isi_bl, isi_tup, isi_fl, isi_str, isi_non, cmpP_in, cmpP_nin, ixP_tup, ixP_fl, ixP_scr, Option.some.injEq, exists_eq_left', List.map_cons, List.map_nil, List.length_cons, List.length_nil, List.cons_append, List.nil_append, List.getElem?_cons_zero, List.getElem?_cons_succ, List.set_cons_zero, List.set_cons_succ, Nat.reduceAdd, Nat.reduceSub, List.replicate_succ, List.replicate_zero, List.append_nil, if_true, Bool.not_false, Bool.not_true, Bool.false_eq_true, if_false, reduceIte, last_get, last_set, eP, eN]
    refine ⟨size_small (by decide), ?_⟩
    have e1 : ((x.1 : Nat) : Int) + (s : Nat) = ((x.1 + s : Nat) : Int) := by omega
    have e2 : ((x.2 : Nat) : Int) + (s : Nat) = ((x.2 + s : Nat) : Int) := by omega
    rw [e1, e2]
    exact hQ
  · have em : (ws.map fun w => eP (mvW s w)) = (ws.map (mvW s)).map eP := by rw [List.map_map]; rfl
    rw [em]
    simp only [evSs, evS, evE, evEs, evO, evT, evI, rdP, startD, asgP, wipeD, binP_add, binP_addT, binP_addF, binP_addS, binP_sub, binP_mul, binP_rep, binP_div, binP_mod, binP_pow, binP_shl, binP_shr, binP_and, cmpP_lt, cmpP_le, cmpP_gt, cmpP_ge, cmpP_eqI, cmpP_neI, biP_lenT, biP_lenF, biP_lenS, biP_abs, biP_int, biP_tupF, biP_tupT, biP_lstF, biP_lstT, biP_all, biP_any, biP_max, biP_min, biP_max2, biP_min2, walk_tup, walk_fl, seq_tup, seq_fl, boolP_bl, isi_int, isi_bl, isi_tup, isi_fl, isi_str, isi_non, cmpP_in, cmpP_nin, ixP_tup, ixP_fl, ixP_scr, Option.some.injEq, exists_eq_left', List.map_cons, List.map_nil, List.length_cons, List.length_nil, List.cons_append, List.nil_append, List.getElem?_cons_zero, List.getElem?_cons_succ, List.set_cons_zero, List.set_cons_succ, Nat.reduceAdd, Nat.reduceSub, List.replicate_succ, List.replicate_zero, List.append_nil, if_true, Bool.not_false, Bool.not_true, Bool.false_eq_true, if_false, reduceIte, last_get, last_set, t_law_28]
    refine mapP_all eP (fun w => eN w.2) (ws.map (mvW s)) rfl (fun x hx Q hQ => ?_) (fun z => z) (by rw [List.length_map]; omega) ?_
    · simp only [evSs, evS, evE, evEs, evO, evT, evI, rdP, startD, asgP, wipeD, binP_add, binP_addT, binP_addF, binP_addS, binP_sub, binP_mul, binP_rep, binP_div, binP_mod, binP_pow, binP_shl, binP_shr, binP_and, cmpP_lt, cmpP_le, cmpP_gt, cmpP_ge, cmpP_eqI, cmpP_neI, biP_lenT, biP_lenF, biP_lenS, biP_abs, biP_int, biP_tupF, biP_tupT, biP_lstF, biP_lstT, biP_all, biP_any, biP_max, biP_min, biP_max2, biP_min2, walk_tup, walk_fl, seq_tup, seq_fl, boolP_bl, isi_int, isi_bl, isi_tup, isi_fl, isi_str, isi_non, cmpP_in, cmpP_nin, ixP_tup, ixP_fl, ixP_scr, Option.some.injEq, exists_eq_left', List.map_cons, List.map_nil, List.length_cons, List.length_nil, List.cons_append, List.nil_append, List.getElem?_cons_zero, List.getElem?_cons_succ, List.set_cons_zero, List.set_cons_succ, Nat.reduceAdd, Nat.reduceSub, List.replicate_succ, List.replicate_zero, List.append_nil, if_true, Bool.not_false, Bool.not_true, Bool.false_eq_true, if_false, reduceIte, last_get, last_set, eP]
      exact hQ
    · refine ⟨_, DL.ints_map (f := fun w : Win => ((w.2 : Nat) : Int)) (fun _ => rfl) _, by rw [List.length_map, List.length_map]; omega, ?_⟩
      split
      · exact fin
      · refine ⟨_, at1, is_none ?_⟩
        cases hF : framesF ws d with
        | none =>
          rw [if_pos (show (none : Option (List Nat)).isNone = true from rfl)]
          exact fin
        | some F0 =>
          rw [if_neg (show ¬ (some F0).isNone = true from fun z => by cases z)]
          have hFl := fr_small ok hF
          simp only [evSs, evS, evE, evEs, evO, evT, evI, rdP, startD, asgP, wipeD, binP_add, binP_addT, binP_addF, binP_addS, binP_sub, binP_mul, binP_rep, binP_div, binP_mod, binP_pow, binP_shl, binP_shr, binP_and, cmpP_lt, cmpP_le, cmpP_gt, cmpP_ge, cmpP_eqI, cmpP_neI, biP_lenT, biP_lenF, biP_lenS, biP_abs, biP_int, biP_tupF, biP_tupT, biP_lstF, biP_lstT, biP_all, biP_any, biP_max, biP_min, biP_max2, biP_min2, walk_tup, walk_fl, seq_tup, seq_fl, boolP_bl, isi_int, isi_bl, isi_tup, isi_fl, isi_str, isi_non, cmpP_in, cmpP_nin, ixP_tup, ixP_fl, ixP_scr, Option.some.injEq, exists_eq_left', List.map_cons, List.map_nil, List.length_cons, List.length_nil, List.cons_append, List.nil_append, List.getElem?_cons_zero, List.getElem?_cons_succ, List.set_cons_zero, List.set_cons_succ, Nat.reduceAdd, Nat.reduceSub, List.replicate_succ, List.replicate_zero, List.append_nil, if_true, Bool.not_false, Bool.not_true, Bool.false_eq_true, if_false, reduceIte, last_get, last_set, t_law_29, h.frames, h.read]
          refine ⟨ws.map (mvW s), d, rfl, ok', hd1, by omega, ?_⟩
          rw [framesF_mv, hF]
          refine ⟨_, rfl, okR_eL (l := F0.map (· + s)) (by rw [List.length_map]; omega) _, ?_⟩
          refine ⟨_, at1, ?_⟩
          simp only [evSs, evS, evE, evEs, evO, evT, evI, rdP, startD, asgP, wipeD, binP_add, binP_addT, binP_addF, binP_addS, binP_sub, binP_mul, binP_rep, binP_div, binP_mod, binP_pow, binP_shl, binP_shr, binP_and, cmpP_lt, cmpP_le, cmpP_gt, cmpP_ge, cmpP_eqI, cmpP_neI, biP_lenT, biP_lenF, biP_lenS, biP_abs, biP_int, biP_tupF, biP_tupT, biP_lstF, biP_lstT, biP_all, biP_any, biP_max, biP_min, biP_max2, biP_min2, walk_tup, walk_fl, seq_tup, seq_fl, boolP_bl, isi_int, isi_bl, isi_tup, isi_fl, isi_str, isi_non, cmpP_in, cmpP_nin, ixP_tup, ixP_fl, ixP_scr, Option.some.injEq, exists_eq_left', List.map_cons, List.map_nil, List.length_cons, List.length_nil, List.cons_append, List.nil_append, List.getElem?_cons_zero, List.getElem?_cons_succ, List.set_cons_zero, List.set_cons_succ, Nat.reduceAdd, Nat.reduceSub, List.replicate_succ, List.replicate_zero, List.append_nil, if_true, Bool.not_false, Bool.not_true, Bool.false_eq_true, if_false, reduceIte, last_get, last_set, eO, eL]
          refine mapP_all eN (fun m => eN (m + s)) F0 rfl (fun m hm Q hQ => ?_) (fun z => z) (by omega) ?_
          · simp only [evSs, evS, evE, evEs, evO, evT, evI, rdP, startD, asgP, wipeD, binP_add, binP_addT, binP_addF, binP_addS, binP_sub, binP_mul, binP_rep, binP_div, binP_mod, binP_pow, binP_shl, binP_shr, binP_and, cmpP_lt, cmpP_le, cmpP_gt, cmpP_ge, cmpP_eqI, cmpP_neI, biP_lenT, biP_lenF, biP_lenS, biP_abs, biP_int, biP_tupF, biP_tupT, biP_lstF, biP_lstT, biP_all, biP_any, biP_max, biP_min, biP_max2, biP_min2, walk_tup, walk_fl, seq_tup, seq_fl, boolP_bl, isi_int, isi_bl, isi_tup, isi_fl, isi_str, isi_non, cmpP_in, cmpP_nin, ixP_tup, ixP_fl, ixP_scr, Option.some.injEq, exists_eq_left', List.map_cons, List.map_nil, List.length_cons, List.length_nil, List.cons_append, List.nil_append, List.getElem?_cons_zero, List.getElem?_cons_succ, List.set_cons_zero, List.set_cons_succ, Nat.reduceAdd, Nat.reduceSub, List.replicate_succ, List.replicate_zero, List.append_nil, if_true, Bool.not_false, Bool.not_true, Bool.false_eq_true, if_false, reduceIte, last_get, last_set, eN]
            have e1 : ((m : Nat) : Int) + (s : Nat) = ((m + s : Nat) : Int) := by omega
            rw [e1]
            exact hQ
          · refine ⟨size_small (by decide), ?_⟩
            have e : (F0.map fun m => eN (m + s)) = (F0.map (· + s)).map eN := by rw [List.map_map]; rfl
            rw [e]
            exact cmpP_eqOf (okD_pair' (okD_eL (F0.map (· + s)) _)) (okD_pair' (okD_eL (F0.map (· + s)) _)) (qv_self _ _ (okD_pair' (okD_eL (F0.map (· + s)) _))) fin
end K13

set_option Elab.async false
set_option linter.all false
set_option maxRecDepth 100000
set_option maxHeartbeats 1000000
/-! A11: the law, whole. -/
namespace K13
open PySem PySem.Spec PyProof.Rows L2 DL
variable {G : Nat → Option Phi} {S : Store} {R : RE} {ds : List D}
def p_law : Phi := fun ds S R => ∃ ns : List Int, ds = [.scr ns] ∧ R (.bl true) S
theorem b_law (h : HG G) (hc : closed S) (hp : p_law ds S R) : evSs G cst f_law (endE S R) (startD N_law ds) S := by
  obtain ⟨ns, rfl, hR⟩ := hp
  refine lawA h fun bl p P word a b dr hp1 hp2 hb => ?_
  refine lawB h dr hp1 hp2 fun ex x7 x8 x9 x10 x11 => ?_
  refine lawC h dr hp1 hp2 hb fun mv a b hmv hb => ?_
  refine lawD h dr hp1 hp2 hmv hb fun a b x16 x17 x18 hb => ?_
  refine lawE h ?_
  refine lawF h hb fun ws a b x20 x21 x22 x23 ok hw hb => ?_
  refine lawG h ok hb fun d k a b x28 hd1 hd2 hk1 hk2 hb => ?_
  refine lawH h ok hb hd1 hd2 hk1 hk2 fun a b x31 x32 x33 hb => ?_
  exact lawI h hc ok hw hb hd1 hd2 hR
end K13

set_option Elab.async false
set_option linter.all false
set_option maxRecDepth 100000
set_option maxHeartbeats 4000000
/-! The end: the defs put together (printed by mkend.py). -/
namespace K13
open PySem PySem.Spec PyProof.Rows L2 DL
theorem n_1 : ∀ ds S R, (p_is_integer) ds S R → ds.length = 1 := by
  intro ds S R h
  unfold p_is_integer at h
  first
    | (split at h <;> first | rfl | cases h)
    | (repeat (obtain ⟨_, h⟩ := h)
       skip
       repeat (obtain ⟨_, h⟩ := h)
       subst_vars
       rfl)
theorem n_2 : ∀ ds S R, (p_marks_of) ds S R → ds.length = 2 := by
  intro ds S R h
  unfold p_marks_of at h
  first
    | (split at h <;> first | rfl | cases h)
    | (repeat (obtain ⟨_, h⟩ := h)
       skip
       repeat (obtain ⟨_, h⟩ := h)
       subst_vars
       rfl)
theorem n_3 : ∀ ds S R, (p_cell) ds S R → ds.length = 2 := by
  intro ds S R h
  unfold p_cell at h
  first
    | (split at h <;> first | rfl | cases h)
    | (repeat (obtain ⟨_, h⟩ := h)
       skip
       repeat (obtain ⟨_, h⟩ := h)
       subst_vars
       rfl)
theorem n_4 : ∀ ds S R, (p_draw) ds S R → ds.length = 2 := by
  intro ds S R h
  unfold p_draw at h
  first
    | (split at h <;> first | rfl | cases h)
    | (repeat (obtain ⟨_, h⟩ := h)
       skip
       repeat (obtain ⟨_, h⟩ := h)
       subst_vars
       rfl)
theorem n_5 : ∀ ds S R, (p_read 0) ds S R → ds.length = 1 := by
  intro ds S R h
  unfold p_read at h
  first
    | (split at h <;> first | rfl | cases h)
    | (repeat (obtain ⟨_, h⟩ := h)
       skip
       repeat (obtain ⟨_, h⟩ := h)
       subst_vars
       rfl)
theorem n_6 : ∀ ds S R, (p_lmark) ds S R → ds.length = 3 := by
  intro ds S R h
  unfold p_lmark at h
  first
    | (split at h <;> first | rfl | cases h)
    | (repeat (obtain ⟨_, h⟩ := h)
       skip
       repeat (obtain ⟨_, h⟩ := h)
       subst_vars
       rfl)
theorem n_7 : ∀ ds S R, (p_is_below) ds S R → ds.length = 2 := by
  intro ds S R h
  unfold p_is_below at h
  first
    | (split at h <;> first | rfl | cases h)
    | (repeat (obtain ⟨_, h⟩ := h)
       skip
       repeat (obtain ⟨_, h⟩ := h)
       subst_vars
       rfl)
theorem n_8 : ∀ ds S R, (p_is_between) ds S R → ds.length = 3 := by
  intro ds S R h
  unfold p_is_between at h
  first
    | (split at h <;> first | rfl | cases h)
    | (repeat (obtain ⟨_, h⟩ := h)
       skip
       repeat (obtain ⟨_, h⟩ := h)
       subst_vars
       rfl)
theorem n_9 : ∀ ds S R, (p_stream) ds S R → ds.length = 2 := by
  intro ds S R h
  unfold p_stream at h
  first
    | (split at h <;> first | rfl | cases h)
    | (repeat (obtain ⟨_, h⟩ := h)
       skip
       repeat (obtain ⟨_, h⟩ := h)
       subst_vars
       rfl)
theorem n_10 : ∀ ds S R, (p_read 1) ds S R → ds.length = 1 := by
  intro ds S R h
  unfold p_read at h
  first
    | (split at h <;> first | rfl | cases h)
    | (repeat (obtain ⟨_, h⟩ := h)
       skip
       repeat (obtain ⟨_, h⟩ := h)
       subst_vars
       rfl)
theorem n_11 : ∀ ds S R, (p_lblinks) ds S R → ds.length = 1 := by
  intro ds S R h
  unfold p_lblinks at h
  first
    | (split at h <;> first | rfl | cases h)
    | (repeat (obtain ⟨_, h⟩ := h)
       skip
       repeat (obtain ⟨_, h⟩ := h)
       subst_vars
       rfl)
theorem n_12 : ∀ ds S R, (p_lgreat) ds S R → ds.length = 2 := by
  intro ds S R h
  unfold p_lgreat at h
  first
    | (split at h <;> first | rfl | cases h)
    | (repeat (obtain ⟨_, h⟩ := h)
       skip
       repeat (obtain ⟨_, h⟩ := h)
       subst_vars
       rfl)
theorem n_13 : ∀ ds S R, (p_lwindows) ds S R → ds.length = 1 := by
  intro ds S R h
  unfold p_lwindows at h
  first
    | (split at h <;> first | rfl | cases h)
    | (repeat (obtain ⟨_, h⟩ := h)
       skip
       repeat (obtain ⟨_, h⟩ := h)
       subst_vars
       rfl)
theorem n_14 : ∀ ds S R, (p_check_windows) ds S R → ds.length = 1 := by
  intro ds S R h
  unfold p_check_windows at h
  first
    | (split at h <;> first | rfl | cases h)
    | (repeat (obtain ⟨_, h⟩ := h)
       skip
       repeat (obtain ⟨_, h⟩ := h)
       subst_vars
       rfl)
theorem n_15 : ∀ ds S R, (p_check_blinks) ds S R → ds.length = 1 := by
  intro ds S R h
  unfold p_check_blinks at h
  first
    | (split at h <;> first | rfl | cases h)
    | (repeat (obtain ⟨_, h⟩ := h)
       skip
       repeat (obtain ⟨_, h⟩ := h)
       subst_vars
       rfl)
theorem n_16 : ∀ ds S R, (p_check_greatest) ds S R → ds.length = 1 := by
  intro ds S R h
  unfold p_check_greatest at h
  first
    | (split at h <;> first | rfl | cases h)
    | (repeat (obtain ⟨_, h⟩ := h)
       skip
       repeat (obtain ⟨_, h⟩ := h)
       subst_vars
       rfl)
theorem n_17 : ∀ ds S R, (p_read 2) ds S R → ds.length = 1 := by
  intro ds S R h
  unfold p_read at h
  first
    | (split at h <;> first | rfl | cases h)
    | (repeat (obtain ⟨_, h⟩ := h)
       skip
       repeat (obtain ⟨_, h⟩ := h)
       subst_vars
       rfl)
theorem n_18 : ∀ ds S R, (p_fits) ds S R → ds.length = 2 := by
  intro ds S R h
  unfold p_fits at h
  first
    | (split at h <;> first | rfl | cases h)
    | (repeat (obtain ⟨_, h⟩ := h)
       skip
       repeat (obtain ⟨_, h⟩ := h)
       subst_vars
       rfl)
theorem n_19 : ∀ ds S R, (p_periods) ds S R → ds.length = 2 := by
  intro ds S R h
  unfold p_periods at h
  first
    | (split at h <;> first | rfl | cases h)
    | (repeat (obtain ⟨_, h⟩ := h)
       skip
       repeat (obtain ⟨_, h⟩ := h)
       subst_vars
       rfl)
theorem n_20 : ∀ ds S R, (p_mark) ds S R → ds.length = 3 := by
  intro ds S R h
  unfold p_mark at h
  first
    | (split at h <;> first | rfl | cases h)
    | (repeat (obtain ⟨_, h⟩ := h)
       skip
       repeat (obtain ⟨_, h⟩ := h)
       subst_vars
       rfl)
theorem n_21 : ∀ ds S R, (p_read 3) ds S R → ds.length = 1 := by
  intro ds S R h
  unfold p_read at h
  first
    | (split at h <;> first | rfl | cases h)
    | (repeat (obtain ⟨_, h⟩ := h)
       skip
       repeat (obtain ⟨_, h⟩ := h)
       subst_vars
       rfl)
theorem n_22 : ∀ ds S R, (p_frames) ds S R → ds.length = 2 := by
  intro ds S R h
  unfold p_frames at h
  first
    | (split at h <;> first | rfl | cases h)
    | (repeat (obtain ⟨_, h⟩ := h)
       skip
       repeat (obtain ⟨_, h⟩ := h)
       subst_vars
       rfl)
theorem n_23 : ∀ ds S R, (p_apart) ds S R → ds.length = 1 := by
  intro ds S R h
  unfold p_apart at h
  first
    | (split at h <;> first | rfl | cases h)
    | (repeat (obtain ⟨_, h⟩ := h)
       skip
       repeat (obtain ⟨_, h⟩ := h)
       subst_vars
       rfl)
theorem n_24 : ∀ ds S R, (p_lfar) ds S R → ds.length = 2 := by
  intro ds S R h
  unfold p_lfar at h
  first
    | (split at h <;> first | rfl | cases h)
    | (repeat (obtain ⟨_, h⟩ := h)
       skip
       repeat (obtain ⟨_, h⟩ := h)
       subst_vars
       rfl)
theorem n_25 : ∀ ds S R, (p_ltp) ds S R → ds.length = 2 := by
  intro ds S R h
  unfold p_ltp at h
  first
    | (split at h <;> first | rfl | cases h)
    | (repeat (obtain ⟨_, h⟩ := h)
       skip
       repeat (obtain ⟨_, h⟩ := h)
       subst_vars
       rfl)
theorem n_26 : ∀ ds S R, (p_law) ds S R → ds.length = 1 := by
  intro ds S R h
  unfold p_law at h
  first
    | (split at h <;> first | rfl | cases h)
    | (repeat (obtain ⟨_, h⟩ := h)
       skip
       repeat (obtain ⟨_, h⟩ := h)
       subst_vars
       rfl)
abbrev s_told : Stmt := (topS 30)
theorem sc_told : FnScope ["call"] ["call"] (L2.defScope s_told) := C8.fnScope_by (by decide +kernel)
theorem body_told : toldBody "_law_read" "call" (L2.defBody s_told) := ⟨_, _, _, _, _, _, _, _, _, _, _, _, rfl⟩
theorem all_mk {l : PySem.W.OpenLaw} {w : World} {K : PySem.W.Frag} {h : Heap} {mg : Str → Option Value} {fa fL f0 f1 f2 f3 f4 f5 f6 f7 f8 f9 f10 f11 f12 f13 f14 f15 f16 f17 f18 f19 f20 f21 fT cx0 cx1 cx2 cx3 cx4 P0 P1 P2 P3 P4 : Addr} {od0 an0 od1 an1 od2 an2 od3 an3 od4 an4 od5 an5 od6 an6 od7 an7 od8 an8 od9 an9 od10 an10 od11 an11 od12 an12 od13 an13 od14 an14 od15 an15 od16 an16 od17 an17 od18 an18 od19 an19 od20 an20 od21 an21 odL anL odT anT : Option Addr} {oc0 kV0 dc0 pm0 ct0 cd0 oc1 kV1 dc1 pm1 ct1 cd1 oc2 kV2 dc2 pm2 ct2 cd2 oc3 kV3 dc3 pm3 ct3 cd3 oc4 kV4 dc4 pm4 ct4 cd4 oc5 kV5 dc5 pm5 ct5 cd5 oc6 kV6 dc6 pm6 ct6 cd6 oc7 kV7 dc7 pm7 ct7 cd7 oc8 kV8 dc8 pm8 ct8 cd8 oc9 kV9 dc9 pm9 ct9 cd9 oc10 kV10 dc10 pm10 ct10 cd10 oc11 kV11 dc11 pm11 ct11 cd11 oc12 kV12 dc12 pm12 ct12 cd12 oc13 kV13 dc13 pm13 ct13 cd13 oc14 kV14 dc14 pm14 ct14 cd14 oc15 kV15 dc15 pm15 ct15 cd15 oc16 kV16 dc16 pm16 ct16 cd16 oc17 kV17 dc17 pm17 ct17 cd17 oc18 kV18 dc18 pm18 ct18 oc19 kV19 dc19 pm19 ct19 oc20 kV20 dc20 pm20 ct20 oc21 kV21 dc21 pm21 ct21 ocL kVL dcL pmL ctL ocT kVT dcT pmT ctT cdT : Value} {sl0 sl1 sl2 sl3 sl4 sl5 sl6 sl7 sl8 sl9 sl10 sl11 sl12 sl13 sl14 sl15 sl16 sl17 sl18 sl19 sl20 sl21 slL slT : Array (Option Value)} {t0 t1 t2 t3 t4 t5 : Tok} (X : K.In h) (G : h.Ns mainGlobals mg) (hfa : mg "law" = some (.ref fa)) (tO0 : h.get? P0 = some { cls := .none, data := .fields #[] }) (tN0 : K.lookup P0 = none) (tC0 : PySem.W.CodeHd h cx0 P0)  (tO1 : h.get? P1 = some { cls := .none, data := .fields #[] }) (tN1 : K.lookup P1 = none) (tC1 : PySem.W.CodeHd h cx1 P1)  (tO2 : h.get? P2 = some { cls := .none, data := .fields #[] }) (tN2 : K.lookup P2 = none) (tC2 : PySem.W.CodeHd h cx2 P2)  (tO3 : h.get? P3 = some { cls := .none, data := .fields #[] }) (tN3 : K.lookup P3 = none) (tC3 : PySem.W.CodeHd h cx3 P3)  (tO4 : h.get? P4 = some { cls := .none, data := .fields #[] }) (tN4 : K.lookup P4 = none) (tC4 : PySem.W.CodeHd h cx4 P4) (tU : [P0, P1, P2, P3, P4].Nodup)
    (a0 : PySem.W.nsIn K mainGlobals "is_integer" = some (some (.ref f0)))
    (l0 : K.lookup f0 = some ⟨oc0, od0, .func (PySem.W.fnOf "is_integer" "is_integer" (defArgs s_is_integer) (defBody s_is_integer) (defScope s_is_integer) .none kV0 dc0 pm0 an0 cd0 ct0), sl0⟩) (c0 : PySem.W.codeIn K cd0 "is_integer" = true) (k0 : PySem.W.keepIn K (.ref f0) = true)
    (a1 : PySem.W.nsIn K mainGlobals "marks_of" = some (some (.ref f1)))
    (l1 : K.lookup f1 = some ⟨oc1, od1, .func (PySem.W.fnOf "marks_of" "marks_of" (defArgs s_marks_of) (defBody s_marks_of) (defScope s_marks_of) .none kV1 dc1 pm1 an1 cd1 ct1), sl1⟩) (c1 : PySem.W.codeIn K cd1 "marks_of" = true) (k1 : PySem.W.keepIn K (.ref f1) = true)
    (a2 : PySem.W.nsIn K mainGlobals "_law_cell" = some (some (.ref f2)))
    (l2 : K.lookup f2 = some ⟨oc2, od2, .func (PySem.W.fnOf "_law_cell" "_law_cell" (defArgs s__law_cell) (defBody s__law_cell) (defScope s__law_cell) .none kV2 dc2 pm2 an2 cd2 ct2), sl2⟩) (c2 : PySem.W.codeIn K cd2 "_law_cell" = true) (k2 : PySem.W.keepIn K (.ref f2) = true)
    (a3 : PySem.W.nsIn K mainGlobals "_law_draw" = some (some (.ref f3)))
    (l3 : K.lookup f3 = some ⟨oc3, od3, .func (PySem.W.fnOf "_law_draw" "_law_draw" (defArgs s__law_draw) (defBody s__law_draw) (defScope s__law_draw) .none kV3 dc3 pm3 an3 cd3 ct3), sl3⟩) (c3 : PySem.W.codeIn K cd3 "_law_draw" = true) (k3 : PySem.W.keepIn K (.ref f3) = true)
    (a4 : PySem.W.nsIn K mainGlobals "_law_read" = some (some (.ref f4)))
    (l4 : K.lookup f4 = some ⟨oc4, od4, .func (PySem.W.fnOf "_law_read" "_law_read" (defArgs s__law_read) (defBody s__law_read) (defScope s__law_read) .none kV4 dc4 pm4 an4 cd4 ct4), sl4⟩) (c4 : PySem.W.codeIn K cd4 "_law_read" = true) (k4 : PySem.W.keepIn K (.ref f4) = true)
    (a5 : PySem.W.nsIn K mainGlobals "_law_mark" = some (some (.ref f5)))
    (l5 : K.lookup f5 = some ⟨oc5, od5, .func (PySem.W.fnOf "_law_mark" "_law_mark" (defArgs s__law_mark) (defBody s__law_mark) (defScope s__law_mark) .none kV5 dc5 pm5 an5 cd5 ct5), sl5⟩) (c5 : PySem.W.codeIn K cd5 "_law_mark" = true) (k5 : PySem.W.keepIn K (.ref f5) = true)
    (a6 : PySem.W.nsIn K mainGlobals "is_below" = some (some (.ref f6)))
    (l6 : K.lookup f6 = some ⟨oc6, od6, .func (PySem.W.fnOf "is_below" "is_below" (defArgs s_is_below) (defBody s_is_below) (defScope s_is_below) .none kV6 dc6 pm6 an6 cd6 ct6), sl6⟩) (c6 : PySem.W.codeIn K cd6 "is_below" = true) (k6 : PySem.W.keepIn K (.ref f6) = true)
    (a7 : PySem.W.nsIn K mainGlobals "is_between" = some (some (.ref f7)))
    (l7 : K.lookup f7 = some ⟨oc7, od7, .func (PySem.W.fnOf "is_between" "is_between" (defArgs s_is_between) (defBody s_is_between) (defScope s_is_between) .none kV7 dc7 pm7 an7 cd7 ct7), sl7⟩) (c7 : PySem.W.codeIn K cd7 "is_between" = true) (k7 : PySem.W.keepIn K (.ref f7) = true)
    (a8 : PySem.W.nsIn K mainGlobals "_law_stream" = some (some (.ref f8)))
    (l8 : K.lookup f8 = some ⟨oc8, od8, .func (PySem.W.fnOf "_law_stream" "_law_stream" (defArgs s__law_stream) (defBody s__law_stream) (defScope s__law_stream) .none kV8 dc8 pm8 an8 cd8 ct8), sl8⟩) (c8 : PySem.W.codeIn K cd8 "_law_stream" = true) (k8 : PySem.W.keepIn K (.ref f8) = true)
    (a9 : PySem.W.nsIn K mainGlobals "_law_blinks" = some (some (.ref f9)))
    (l9 : K.lookup f9 = some ⟨oc9, od9, .func (PySem.W.fnOf "_law_blinks" "_law_blinks" (defArgs s__law_blinks) (defBody s__law_blinks) (defScope s__law_blinks) .none kV9 dc9 pm9 an9 cd9 ct9), sl9⟩) (c9 : PySem.W.codeIn K cd9 "_law_blinks" = true) (k9 : PySem.W.keepIn K (.ref f9) = true)
    (a10 : PySem.W.nsIn K mainGlobals "_law_greatest" = some (some (.ref f10)))
    (l10 : K.lookup f10 = some ⟨oc10, od10, .func (PySem.W.fnOf "_law_greatest" "_law_greatest" (defArgs s__law_greatest) (defBody s__law_greatest) (defScope s__law_greatest) .none kV10 dc10 pm10 an10 cd10 ct10), sl10⟩) (c10 : PySem.W.codeIn K cd10 "_law_greatest" = true) (k10 : PySem.W.keepIn K (.ref f10) = true)
    (a11 : PySem.W.nsIn K mainGlobals "_law_windows" = some (some (.ref f11)))
    (l11 : K.lookup f11 = some ⟨oc11, od11, .func (PySem.W.fnOf "_law_windows" "_law_windows" (defArgs s__law_windows) (defBody s__law_windows) (defScope s__law_windows) .none kV11 dc11 pm11 an11 cd11 ct11), sl11⟩) (c11 : PySem.W.codeIn K cd11 "_law_windows" = true) (k11 : PySem.W.keepIn K (.ref f11) = true)
    (a12 : PySem.W.nsIn K mainGlobals "check_windows" = some (some (.ref f12)))
    (l12 : K.lookup f12 = some ⟨oc12, od12, .func (PySem.W.fnOf "check_windows" "check_windows" (defArgs s_check_windows) (defBody s_check_windows) (defScope s_check_windows) .none kV12 dc12 pm12 an12 cd12 ct12), sl12⟩) (c12 : PySem.W.codeIn K cd12 "check_windows" = true) (k12 : PySem.W.keepIn K (.ref f12) = true)
    (a13 : PySem.W.nsIn K mainGlobals "check_blinks" = some (some (.ref f13)))
    (l13 : K.lookup f13 = some ⟨oc13, od13, .func (PySem.W.fnOf "check_blinks" "check_blinks" (defArgs s_check_blinks) (defBody s_check_blinks) (defScope s_check_blinks) .none kV13 dc13 pm13 an13 cd13 ct13), sl13⟩) (c13 : PySem.W.codeIn K cd13 "check_blinks" = true) (k13 : PySem.W.keepIn K (.ref f13) = true)
    (a14 : PySem.W.nsIn K mainGlobals "check_greatest" = some (some (.ref f14)))
    (l14 : K.lookup f14 = some ⟨oc14, od14, .func (PySem.W.fnOf "check_greatest" "check_greatest" (defArgs s_check_greatest) (defBody s_check_greatest) (defScope s_check_greatest) .none kV14 dc14 pm14 an14 cd14 ct14), sl14⟩) (c14 : PySem.W.codeIn K cd14 "check_greatest" = true) (k14 : PySem.W.keepIn K (.ref f14) = true)
    (a15 : PySem.W.nsIn K mainGlobals "fits" = some (some (.ref f15)))
    (l15 : K.lookup f15 = some ⟨oc15, od15, .func (PySem.W.fnOf "fits" "fits" (defArgs s_fits) (defBody s_fits) (defScope s_fits) .none kV15 dc15 pm15 an15 cd15 ct15), sl15⟩) (c15 : PySem.W.codeIn K cd15 "fits" = true) (k15 : PySem.W.keepIn K (.ref f15) = true)
    (a16 : PySem.W.nsIn K mainGlobals "periods" = some (some (.ref f16)))
    (l16 : K.lookup f16 = some ⟨oc16, od16, .func (PySem.W.fnOf "periods" "periods" (defArgs s_periods) (defBody s_periods) (defScope s_periods) .none kV16 dc16 pm16 an16 cd16 ct16), sl16⟩) (c16 : PySem.W.codeIn K cd16 "periods" = true) (k16 : PySem.W.keepIn K (.ref f16) = true)
    (a17 : PySem.W.nsIn K mainGlobals "mark" = some (some (.ref f17)))
    (l17 : K.lookup f17 = some ⟨oc17, od17, .func (PySem.W.fnOf "mark" "mark" (defArgs s_mark) (defBody s_mark) (defScope s_mark) .none kV17 dc17 pm17 an17 cd17 ct17), sl17⟩) (c17 : PySem.W.codeIn K cd17 "mark" = true) (k17 : PySem.W.keepIn K (.ref f17) = true)
    (a18 : PySem.W.nsIn K mainGlobals "frames" = some (some (.ref f18)))
    (l18 : K.lookup f18 = some ⟨oc18, od18, .func (PySem.W.fnOf "frames" "frames" (defArgs s_frames) (defBody s_frames) (defScope s_frames) .none kV18 dc18 pm18 an18 (.ref cx0) ct18), sl18⟩) (c18 : PySem.W.codeIn K (.ref cx0) "frames" = true) (k18 : PySem.W.keepIn K (.ref f18) = true)
    (a19 : PySem.W.nsIn K mainGlobals "apart" = some (some (.ref f19)))
    (l19 : K.lookup f19 = some ⟨oc19, od19, .func (PySem.W.fnOf "apart" "apart" (defArgs s_apart) (defBody s_apart) (defScope s_apart) .none kV19 dc19 pm19 an19 (.ref cx1) ct19), sl19⟩) (c19 : PySem.W.codeIn K (.ref cx1) "apart" = true) (k19 : PySem.W.keepIn K (.ref f19) = true)
    (a20 : PySem.W.nsIn K mainGlobals "_law_far_right" = some (some (.ref f20)))
    (l20 : K.lookup f20 = some ⟨oc20, od20, .func (PySem.W.fnOf "_law_far_right" "_law_far_right" (defArgs s__law_far_right) (defBody s__law_far_right) (defScope s__law_far_right) .none kV20 dc20 pm20 an20 (.ref cx2) ct20), sl20⟩) (c20 : PySem.W.codeIn K (.ref cx2) "_law_far_right" = true) (k20 : PySem.W.keepIn K (.ref f20) = true)
    (a21 : PySem.W.nsIn K mainGlobals "_law_told_periods" = some (some (.ref f21)))
    (l21 : K.lookup f21 = some ⟨oc21, od21, .func (PySem.W.fnOf "_law_told_periods" "_law_told_periods" (defArgs s__law_told_periods) (defBody s__law_told_periods) (defScope s__law_told_periods) .none kV21 dc21 pm21 an21 (.ref cx3) ct21), sl21⟩) (c21 : PySem.W.codeIn K (.ref cx3) "_law_told_periods" = true) (k21 : PySem.W.keepIn K (.ref f21) = true)
    (aL : PySem.W.nsIn K mainGlobals "law" = some (some (.ref fL)))
    (lL : K.lookup fL = some ⟨ocL, odL, .func (PySem.W.fnOf "law" "law" (defArgs s_law) (defBody s_law) (defScope s_law) .none kVL dcL pmL anL (.ref cx4) ctL), slL⟩) (cL : PySem.W.codeIn K (.ref cx4) "law" = true) (kL : PySem.W.keepIn K (.ref fL) = true)
    (aT : PySem.W.nsIn K mainGlobals "_law_told" = some (some (.ref fT)))
    (lT : K.lookup fT = some ⟨ocT, odT, .func (PySem.W.fnOf "_law_told" "_law_told" (defArgs s_told) (defBody s_told) (defScope s_told) .none kVT dcT pmT anT cdT ctT), slT⟩) (cT : PySem.W.codeIn K cdT "_law_told" = true) (kT : PySem.W.keepIn K (.ref fT) = true)
    (x0 : PySem.W.nsIn K mainGlobals "MOST_WINDOWS" = some (some (.int 40 t0)))
    (x1 : PySem.W.nsIn K mainGlobals "MOST_MOMENT_frames" = some (some (.int 1000 t1)))
    (x2 : PySem.W.nsIn K mainGlobals "MOST_FRAMES" = some (some (.int 20 t2)))
    (x3 : PySem.W.nsIn K mainGlobals "MOST_BLINKS" = some (some (.int 40 t3)))
    (x4 : PySem.W.nsIn K mainGlobals "MOST_MOMENT_blinks" = some (some (.int 10000 t4)))
    (x5 : PySem.W.nsIn K mainGlobals "MOST_PERIOD" = some (some (.int 2000 t5)))
    (z_len : PySem.W.nsIn K mainGlobals "len" = some none)
    (z_abs : PySem.W.nsIn K mainGlobals "abs" = some none)
    (z_int : PySem.W.nsIn K mainGlobals "int" = some none)
    (z_tuple : PySem.W.nsIn K mainGlobals "tuple" = some none)
    (z_list : PySem.W.nsIn K mainGlobals "list" = some none)
    (z_sum : PySem.W.nsIn K mainGlobals "sum" = some none)
    (z_all : PySem.W.nsIn K mainGlobals "all" = some none)
    (z_any : PySem.W.nsIn K mainGlobals "any" = some none)
    (z_max : PySem.W.nsIn K mainGlobals "max" = some none)
    (z_min : PySem.W.nsIn K mainGlobals "min" = some none)
    (z_sorted : PySem.W.nsIn K mainGlobals "sorted" = some none)
    (z_range : PySem.W.nsIn K mainGlobals "range" = some none)
    (z_enumerate : PySem.W.nsIn K mainGlobals "enumerate" = some none)
    (z_zip : PySem.W.nsIn K mainGlobals "zip" = some none)
    (z_isinstance : PySem.W.nsIn K mainGlobals "isinstance" = some none)
    (z_bool : PySem.W.nsIn K mainGlobals "bool" = some none)
    (z_str : PySem.W.nsIn K mainGlobals "str" = some none)
    (z_dict : PySem.W.nsIn K mainGlobals "dict" = some none)
    (z_set : PySem.W.nsIn K mainGlobals "set" = some none)
    (z_repr : PySem.W.nsIn K mainGlobals "repr" = some none) :
    LamX.LawAtS l w K L2.CX0 200 63 "script" mg fa h := by
  have e := hfa.symm.trans (PySem.W.mg_of X G aL)
  cases e
  let W : Wd := ⟨l.prog, w, K, fun c => match c with | _ => none, [(P0, ("frames" : Str) ++ ".<locals>." ++ "<lambda>"), (P1, ("apart" : Str) ++ ".<locals>." ++ "<lambda>"), (P2, ("_law_far_right" : Str) ++ ".<locals>." ++ "<lambda>"), (P3, ("_law_told_periods" : Str) ++ ".<locals>." ++ "<lambda>"), (P4, ("law" : Str) ++ ".<locals>." ++ "<lambda>")]⟩
  have F0 := fun_mk (st := s_is_integer) l0 c0 k0
  have b0 := F0.binds (ps := ["thing"]) fun _ _ _ _ _ _ us hl => match us, hl with | [_], _ => rfl
  have F1 := fun_mk (st := s_marks_of) l1 c1 k1
  have b1 := F1.binds (ps := ["blinks", "p"]) fun _ _ _ _ _ _ us hl => match us, hl with | [_, _], _ => rfl
  have F2 := fun_mk (st := s__law_cell) l2 c2 k2
  have b2 := F2.binds (ps := ["script", "k"]) fun _ _ _ _ _ _ us hl => match us, hl with | [_, _], _ => rfl
  have F3 := fun_mk (st := s__law_draw) l3 c3 k3
  have b3 := F3.binds (ps := ["box", "high"]) fun _ _ _ _ _ _ us hl => match us, hl with | [_, _], _ => rfl
  have F4 := fun_mk (st := s__law_read) l4 c4 k4
  have b4 := F4.binds (ps := ["told"]) fun _ _ _ _ _ _ us hl => match us, hl with | [_], _ => rfl
  have F5 := fun_mk (st := s__law_mark) l5 c5 k5
  have b5 := F5.binds (ps := ["blinks", "good", "moment"]) fun _ _ _ _ _ _ us hl => match us, hl with | [_, _, _], _ => rfl
  have F6 := fun_mk (st := s_is_below) l6 c6 k6
  have b6 := F6.binds (ps := ["thing", "bound"]) fun _ _ _ _ _ _ us hl => match us, hl with | [_, _], _ => rfl
  have F7 := fun_mk (st := s_is_between) l7 c7 k7
  have b7 := F7.binds (ps := ["thing", "low", "high"]) fun _ _ _ _ _ _ us hl => match us, hl with | [_, _, _], _ => rfl
  have F8 := fun_mk (st := s__law_stream) l8 c8 k8
  have b8 := F8.binds (ps := ["script", "k"]) fun _ _ _ _ _ _ us hl => match us, hl with | [_, _], _ => rfl
  have F9 := fun_mk (st := s__law_blinks) l9 c9 k9
  have b9 := F9.binds (ps := ["box"]) fun _ _ _ _ _ _ us hl => match us, hl with | [_], _ => rfl
  have F10 := fun_mk (st := s__law_greatest) l10 c10 k10
  have b10 := F10.binds (ps := ["box", "p"]) fun _ _ _ _ _ _ us hl => match us, hl with | [_, _], _ => rfl
  have F11 := fun_mk (st := s__law_windows) l11 c11 k11
  have b11 := F11.binds (ps := ["box"]) fun _ _ _ _ _ _ us hl => match us, hl with | [_], _ => rfl
  have F12 := fun_mk (st := s_check_windows) l12 c12 k12
  have b12 := F12.binds (ps := ["windows"]) fun _ _ _ _ _ _ us hl => match us, hl with | [_], _ => rfl
  have F13 := fun_mk (st := s_check_blinks) l13 c13 k13
  have b13 := F13.binds (ps := ["blinks"]) fun _ _ _ _ _ _ us hl => match us, hl with | [_], _ => rfl
  have F14 := fun_mk (st := s_check_greatest) l14 c14 k14
  have b14 := F14.binds (ps := ["P"]) fun _ _ _ _ _ _ us hl => match us, hl with | [_], _ => rfl
  have F15 := fun_mk (st := s_fits) l15 c15 k15
  have b15 := F15.binds (ps := ["blinks", "p"]) fun _ _ _ _ _ _ us hl => match us, hl with | [_, _], _ => rfl
  have F16 := fun_mk (st := s_periods) l16 c16 k16
  have b16 := F16.binds (ps := ["blinks", "P"]) fun _ _ _ _ _ _ us hl => match us, hl with | [_, _], _ => rfl
  have F17 := fun_mk (st := s_mark) l17 c17 k17
  have b17 := F17.binds (ps := ["blinks", "P", "moment"]) fun _ _ _ _ _ _ us hl => match us, hl with | [_, _, _], _ => rfl
  have F18 := fun_mk (st := s_frames) l18 c18 k18
  have b18 := F18.binds (ps := ["windows", "d"]) fun _ _ _ _ _ _ us hl => match us, hl with | [_, _], _ => rfl
  have F19 := fun_mk (st := s_apart) l19 c19 k19
  have b19 := F19.binds (ps := ["windows"]) fun _ _ _ _ _ _ us hl => match us, hl with | [_], _ => rfl
  have F20 := fun_mk (st := s__law_far_right) l20 c20 k20
  have b20 := F20.binds (ps := ["blinks", "p"]) fun _ _ _ _ _ _ us hl => match us, hl with | [_, _], _ => rfl
  have F21 := fun_mk (st := s__law_told_periods) l21 c21 k21
  have b21 := F21.binds (ps := ["blinks", "P"]) fun _ _ _ _ _ _ us hl => match us, hl with | [_, _], _ => rfl
  have FL := fun_mk (st := s_law) lL cL kL
  have bL := FL.binds (ps := ["script"]) fun _ _ _ _ _ _ us hl => match us, hl with | [_], _ => rfl
  have FT := fun_mk (st := s_told) lT cT kT
  have bT := FT.binds (ps := ["call"]) fun _ _ _ _ _ _ us hl => match us, hl with | [_], _ => rfl
  have A0 : At W nm mg 0 f0 := At.fn (x := "is_integer") rfl (fun c => match c with | _ => rfl) (fun c y h => match c, h with | _, h => nomatch h) (PySem.W.mg_of X G a0) k0
  have A1 : At W nm mg 7 f1 := At.fn (x := "marks_of") rfl (fun c => match c with | _ => rfl) (fun c y h => match c, h with | _, h => nomatch h) (PySem.W.mg_of X G a1) k1
  have A2 : At W nm mg 12 f2 := At.fn (x := "_law_cell") rfl (fun c => match c with | _ => rfl) (fun c y h => match c, h with | _, h => nomatch h) (PySem.W.mg_of X G a2) k2
  have A3 : At W nm mg 14 f3 := At.fn (x := "_law_draw") rfl (fun c => match c with | _ => rfl) (fun c y h => match c, h with | _, h => nomatch h) (PySem.W.mg_of X G a3) k3
  have A4 : At W nm mg 15 f4 := At.fn (x := "_law_read") rfl (fun c => match c with | _ => rfl) (fun c y h => match c, h with | _, h => nomatch h) (PySem.W.mg_of X G a4) k4
  have A5 : At W nm mg 25 f5 := At.fn (x := "_law_mark") rfl (fun c => match c with | _ => rfl) (fun c y h => match c, h with | _, h => nomatch h) (PySem.W.mg_of X G a5) k5
  have A6 : At W nm mg 1 f6 := At.fn (x := "is_below") rfl (fun c => match c with | _ => rfl) (fun c y h => match c, h with | _, h => nomatch h) (PySem.W.mg_of X G a6) k6
  have A7 : At W nm mg 2 f7 := At.fn (x := "is_between") rfl (fun c => match c with | _ => rfl) (fun c y h => match c, h with | _, h => nomatch h) (PySem.W.mg_of X G a7) k7
  have A8 : At W nm mg 13 f8 := At.fn (x := "_law_stream") rfl (fun c => match c with | _ => rfl) (fun c y h => match c, h with | _, h => nomatch h) (PySem.W.mg_of X G a8) k8
  have A9 : At W nm mg 22 f9 := At.fn (x := "_law_blinks") rfl (fun c => match c with | _ => rfl) (fun c y h => match c, h with | _, h => nomatch h) (PySem.W.mg_of X G a9) k9
  have A10 : At W nm mg 23 f10 := At.fn (x := "_law_greatest") rfl (fun c => match c with | _ => rfl) (fun c y h => match c, h with | _, h => nomatch h) (PySem.W.mg_of X G a10) k10
  have A11 : At W nm mg 26 f11 := At.fn (x := "_law_windows") rfl (fun c => match c with | _ => rfl) (fun c y h => match c, h with | _, h => nomatch h) (PySem.W.mg_of X G a11) k11
  have A12 : At W nm mg 3 f12 := At.fn (x := "check_windows") rfl (fun c => match c with | _ => rfl) (fun c y h => match c, h with | _, h => nomatch h) (PySem.W.mg_of X G a12) k12
  have A13 : At W nm mg 6 f13 := At.fn (x := "check_blinks") rfl (fun c => match c with | _ => rfl) (fun c y h => match c, h with | _, h => nomatch h) (PySem.W.mg_of X G a13) k13
  have A14 : At W nm mg 9 f14 := At.fn (x := "check_greatest") rfl (fun c => match c with | _ => rfl) (fun c y h => match c, h with | _, h => nomatch h) (PySem.W.mg_of X G a14) k14
  have A15 : At W nm mg 8 f15 := At.fn (x := "fits") rfl (fun c => match c with | _ => rfl) (fun c y h => match c, h with | _, h => nomatch h) (PySem.W.mg_of X G a15) k15
  have A16 : At W nm mg 10 f16 := At.fn (x := "periods") rfl (fun c => match c with | _ => rfl) (fun c y h => match c, h with | _, h => nomatch h) (PySem.W.mg_of X G a16) k16
  have A17 : At W nm mg 11 f17 := At.fn (x := "mark") rfl (fun c => match c with | _ => rfl) (fun c y h => match c, h with | _, h => nomatch h) (PySem.W.mg_of X G a17) k17
  have A18 : At W nm mg 4 f18 := At.fn (x := "frames") rfl (fun c => match c with | _ => rfl) (fun c y h => match c, h with | _, h => nomatch h) (PySem.W.mg_of X G a18) k18
  have A19 : At W nm mg 5 f19 := At.fn (x := "apart") rfl (fun c => match c with | _ => rfl) (fun c y h => match c, h with | _, h => nomatch h) (PySem.W.mg_of X G a19) k19
  have A20 : At W nm mg 24 f20 := At.fn (x := "_law_far_right") rfl (fun c => match c with | _ => rfl) (fun c y h => match c, h with | _, h => nomatch h) (PySem.W.mg_of X G a20) k20
  have A21 : At W nm mg 27 f21 := At.fn (x := "_law_told_periods") rfl (fun c => match c with | _ => rfl) (fun c y h => match c, h with | _, h => nomatch h) (PySem.W.mg_of X G a21) k21
  have hB : ∀ x ∈ bltNames, mg x = none := by
    intro x hx
    simp only [bltNames, List.mem_cons, List.not_mem_nil, or_false] at hx
    rcases hx with rfl | rfl | rfl | rfl | rfl | rfl | rfl | rfl | rfl | rfl | rfl | rfl | rfl | rfl | rfl | rfl | rfl | rfl | rfl | rfl
    · exact PySem.W.mg_none_of X G z_len
    · exact PySem.W.mg_none_of X G z_abs
    · exact PySem.W.mg_none_of X G z_int
    · exact PySem.W.mg_none_of X G z_tuple
    · exact PySem.W.mg_none_of X G z_list
    · exact PySem.W.mg_none_of X G z_sum
    · exact PySem.W.mg_none_of X G z_all
    · exact PySem.W.mg_none_of X G z_any
    · exact PySem.W.mg_none_of X G z_max
    · exact PySem.W.mg_none_of X G z_min
    · exact PySem.W.mg_none_of X G z_sorted
    · exact PySem.W.mg_none_of X G z_range
    · exact PySem.W.mg_none_of X G z_enumerate
    · exact PySem.W.mg_none_of X G z_zip
    · exact PySem.W.mg_none_of X G z_isinstance
    · exact PySem.W.mg_none_of X G z_bool
    · exact PySem.W.mg_none_of X G z_str
    · exact PySem.W.mg_none_of X G z_dict
    · exact PySem.W.mg_none_of X G z_set
    · exact PySem.W.mg_none_of X G z_repr
  have hK : ∀ j i x, nm.k j = some x → cst j = some i → ∃ t, mg x = some (.int i t) := fun j i x h1 h2 => match j, h1, h2 with | 0, h1, h2 => ⟨t0, by have e1 : "MOST_WINDOWS" = x := Option.some.inj h1; have e2 : 40 = i := Option.some.inj h2; rw [← e1, ← e2]; exact PySem.W.mg_of X G x0⟩ | 1, h1, h2 => ⟨t1, by have e1 : "MOST_MOMENT_frames" = x := Option.some.inj h1; have e2 : 1000 = i := Option.some.inj h2; rw [← e1, ← e2]; exact PySem.W.mg_of X G x1⟩ | 2, h1, h2 => ⟨t2, by have e1 : "MOST_FRAMES" = x := Option.some.inj h1; have e2 : 20 = i := Option.some.inj h2; rw [← e1, ← e2]; exact PySem.W.mg_of X G x2⟩ | 3, h1, h2 => ⟨t3, by have e1 : "MOST_BLINKS" = x := Option.some.inj h1; have e2 : 40 = i := Option.some.inj h2; rw [← e1, ← e2]; exact PySem.W.mg_of X G x3⟩ | 4, h1, h2 => ⟨t4, by have e1 : "MOST_MOMENT_blinks" = x := Option.some.inj h1; have e2 : 10000 = i := Option.some.inj h2; rw [← e1, ← e2]; exact PySem.W.mg_of X G x4⟩ | 5, h1, h2 => ⟨t5, by have e1 : "MOST_PERIOD" = x := Option.some.inj h1; have e2 : 2000 = i := Option.some.inj h2; rw [← e1, ← e2]; exact PySem.W.mg_of X G x5⟩ | _ + 6, h1, _ => nomatch h1
  have hC : ∀ c ca, W.C c = some ca → Cls W.K ca := fun c ca h => match c, h with | _, h => nomatch h
  have hN : ∀ c ca, W.C c = some ca → ∀ f ∈ nm.f c, NoAttr W.K ca f := fun c ca h => match c, h with | _, h => nomatch h
  refine ⟨PySem.W.fnOf "law" "law" (defArgs s_law) (defBody s_law) (defScope s_law) .none kVL dcL pmL anL (.ref cx4) ctL, [(cx0, P0), (cx1, P1), (cx2, P2), (cx3, P3), (cx4, P4)], spD W p_law, (List.forall_mem_cons.mpr ⟨tO0, (List.forall_mem_cons.mpr ⟨tO1, (List.forall_mem_cons.mpr ⟨tO2, (List.forall_mem_cons.mpr ⟨tO3, (List.forall_mem_cons.mpr ⟨tO4, (fun _ h => nomatch h)⟩)⟩)⟩)⟩)⟩), (List.forall_mem_cons.mpr ⟨tN0, (List.forall_mem_cons.mpr ⟨tN1, (List.forall_mem_cons.mpr ⟨tN2, (List.forall_mem_cons.mpr ⟨tN3, (List.forall_mem_cons.mpr ⟨tN4, (fun _ h => nomatch h)⟩)⟩)⟩)⟩)⟩), (List.forall_mem_cons.mpr ⟨tC0, (List.forall_mem_cons.mpr ⟨tC1, (List.forall_mem_cons.mpr ⟨tC2, (List.forall_mem_cons.mpr ⟨tC3, (List.forall_mem_cons.mpr ⟨tC4, (fun _ h => nomatch h)⟩)⟩)⟩)⟩)⟩), fun s v => .of_eq rfl, fun H a ns _ _ hH hS => ?_, fun base KB GB hTB => ?_⟩
  · refine sp_script (fun p hp => ?_) hS ⟨ns, rfl, rfl⟩ _
    rcases List.mem_cons.mp hp with rfl | hp
    · exact LamX.TabS.nil (hH (cx0, P0) List.mem_cons_self)
    rcases List.mem_cons.mp hp with rfl | hp
    · exact LamX.TabS.nil (hH (cx1, P1) (List.mem_cons_of_mem _ List.mem_cons_self))
    rcases List.mem_cons.mp hp with rfl | hp
    · exact LamX.TabS.nil (hH (cx2, P2) (List.mem_cons_of_mem _ (List.mem_cons_of_mem _ List.mem_cons_self)))
    rcases List.mem_cons.mp hp with rfl | hp
    · exact LamX.TabS.nil (hH (cx3, P3) (List.mem_cons_of_mem _ (List.mem_cons_of_mem _ (List.mem_cons_of_mem _ List.mem_cons_self))))
    rcases List.mem_cons.mp hp with rfl | hp
    · exact LamX.TabS.nil (hH (cx4, P4) (List.mem_cons_of_mem _ (List.mem_cons_of_mem _ (List.mem_cons_of_mem _ (List.mem_cons_of_mem _ List.mem_cons_self)))))
    cases hp
  · have T_0 : Lk W nm (fun _ => none) cst 0 mg base := Lk.nil hK hB hC hN
    have P_0_0 := okF (φ := p_is_integer) T_0 F0 b0 sc_is_integer n_1 ck_is_integer (fun ds S R hc h => b_is_integer  hc h)
    have P_0_1 := okF (φ := p_marks_of) T_0 F1 b1 sc_marks_of n_2 ck_marks_of (fun ds S R hc h => b_marks_of  hc h)
    have P_0_2 := okF (φ := p_cell) T_0 F2 b2 sc__law_cell n_3 ck__law_cell (fun ds S R hc h => b_cell  hc h)
    have P_0_3 := okF (φ := p_draw) T_0 F3 b3 sc__law_draw n_4 ck__law_draw (fun ds S R hc h => b_draw  hc h)
    have P_0_4 := okF (φ := p_read 0) T_0 F4 b4 sc__law_read n_5 ck__law_read (fun ds S R hc h => b_read0  hc h)
    have P_0_5 := okF (φ := p_lmark) T_0 F5 b5 sc__law_mark n_6 ck__law_mark (fun ds S R hc h => b_lmark  hc h)
    have T_1 := T_0.push A0 P_0_0 (by omega)
    have T_2 := T_1.push A1 P_0_1 (by omega)
    have T_3 := T_2.push A2 P_0_2 (by omega)
    have T_4 := T_3.push A3 P_0_3 (by omega)
    have T_5 := T_4.push A4 P_0_4 (by omega)
    have T_6 := T_5.push A5 P_0_5 (by omega)
    have P_1_0 := okF (φ := p_is_below) T_6 F6 b6 sc_is_below n_7 ck_is_below (fun ds S R hc h => b_is_below rfl hc h)
    have P_1_1 := okF (φ := p_is_between) T_6 F7 b7 sc_is_between n_8 ck_is_between (fun ds S R hc h => b_is_between rfl hc h)
    have P_1_2 := okF (φ := p_stream) T_6 F8 b8 sc__law_stream n_9 ck__law_stream (fun ds S R hc h => b_stream rfl hc h)
    have P_1_3 := okF (φ := p_read 1) T_6 F4 b4 sc__law_read n_10 ck__law_read (fun ds S R hc h => b_read rfl hc h)
    have P_1_4 := okF (φ := p_lblinks) T_6 F9 b9 sc__law_blinks n_11 ck__law_blinks (fun ds S R hc h => b_lblinks rfl hc h)
    have P_1_5 := okF (φ := p_lgreat) T_6 F10 b10 sc__law_greatest n_12 ck__law_greatest (fun ds S R hc h => b_lgreat rfl hc h)
    have P_1_6 := okF (φ := p_lwindows) T_6 F11 b11 sc__law_windows n_13 ck__law_windows (fun ds S R hc h => b_lwindows rfl hc h)
    have T_7 := T_6.push A6 P_1_0 (by omega)
    have T_8 := T_7.push A7 P_1_1 (by omega)
    have T_9 := T_8.push A8 P_1_2 (by omega)
    have T_10 := T_9.push A4 P_1_3 (by omega)
    have T_11 := T_10.push A9 P_1_4 (by omega)
    have T_12 := T_11.push A10 P_1_5 (by omega)
    have T_13 := T_12.push A11 P_1_6 (by omega)
    have P_2_0 := okF (φ := p_check_windows) T_13 F12 b12 sc_check_windows n_14 ck_check_windows (fun ds S R hc h => b_check_windows rfl hc h)
    have P_2_1 := okF (φ := p_check_blinks) T_13 F13 b13 sc_check_blinks n_15 ck_check_blinks (fun ds S R hc h => b_check_blinks rfl rfl hc h)
    have P_2_2 := okF (φ := p_check_greatest) T_13 F14 b14 sc_check_greatest n_16 ck_check_greatest (fun ds S R hc h => b_check_greatest rfl hc h)
    have P_2_3 := okF (φ := p_read 2) T_13 F4 b4 sc__law_read n_17 ck__law_read (fun ds S R hc h => b_read rfl hc h)
    have T_14 := T_13.push A12 P_2_0 (by omega)
    have T_15 := T_14.push A13 P_2_1 (by omega)
    have T_16 := T_15.push A14 P_2_2 (by omega)
    have T_17 := T_16.push A4 P_2_3 (by omega)
    have P_3_0 := okF (φ := p_fits) T_17 F15 b15 sc_fits n_18 ck_fits (fun ds S R hc h => b_fits rfl rfl rfl hc h)
    have P_3_1 := okF (φ := p_periods) T_17 F16 b16 sc_periods n_19 ck_periods (fun ds S R hc h => b_periods rfl rfl rfl hc h)
    have P_3_2 := okF (φ := p_mark) T_17 F17 b17 sc_mark n_20 ck_mark (fun ds S R hc h => b_mark rfl rfl rfl rfl hc h)
    have P_3_3 := okF (φ := p_read 3) T_17 F4 b4 sc__law_read n_21 ck__law_read (fun ds S R hc h => b_read rfl hc h)
    have P_3_4 := okFL (φ := p_frames) T_17 l18 c18 b18 sc_frames n_22 ck_frames (fun ds S R hc h => b_frames rfl rfl hc h) (hTB (cx0, P0) List.mem_cons_self) List.mem_cons_self (tab_uniq (T := W.T) tU List.mem_cons_self)
    have P_3_5 := okFL (φ := p_apart) T_17 l19 c19 b19 sc_apart n_23 ck_apart (fun ds S R hc h => b_apart rfl hc h) (hTB (cx1, P1) (List.mem_cons_of_mem _ List.mem_cons_self)) (List.mem_cons_of_mem _ List.mem_cons_self) (tab_uniq (T := W.T) tU (List.mem_cons_of_mem _ List.mem_cons_self))
    have T_18 := T_17.push A15 P_3_0 (by omega)
    have T_19 := T_18.push A16 P_3_1 (by omega)
    have T_20 := T_19.push A17 P_3_2 (by omega)
    have T_21 := T_20.push A4 P_3_3 (by omega)
    have T_22 := T_21.push A18 P_3_4 (by omega)
    have T_23 := T_22.push A19 P_3_5 (by omega)
    have P_4_0 := okFT (φ := p_lfar) T_23 l20 c20 b20 sc__law_far_right n_24 ck__law_far_right (fun ds S R hc h => b_lfar rfl rfl hc h) (hTB (cx2, P2) (List.mem_cons_of_mem _ (List.mem_cons_of_mem _ List.mem_cons_self))) (List.mem_cons_of_mem _ (List.mem_cons_of_mem _ List.mem_cons_self)) (tab_uniq (T := W.T) tU (List.mem_cons_of_mem _ (List.mem_cons_of_mem _ List.mem_cons_self))) rfl FT (PySem.W.mg_of X G aT) bT sc_told rfl body_told rfl (by decide +kernel) (by decide) (by decide)
    have P_4_1 := okFT (φ := p_ltp) T_23 l21 c21 b21 sc__law_told_periods n_25 ck__law_told_periods (fun ds S R hc h => b_ltp rfl rfl hc h) (hTB (cx3, P3) (List.mem_cons_of_mem _ (List.mem_cons_of_mem _ (List.mem_cons_of_mem _ List.mem_cons_self)))) (List.mem_cons_of_mem _ (List.mem_cons_of_mem _ (List.mem_cons_of_mem _ List.mem_cons_self))) (tab_uniq (T := W.T) tU (List.mem_cons_of_mem _ (List.mem_cons_of_mem _ (List.mem_cons_of_mem _ List.mem_cons_self)))) rfl FT (PySem.W.mg_of X G aT) bT sc_told rfl body_told rfl (by decide +kernel) (by decide) (by decide)
    have T_24 := T_23.push A20 P_4_0 (by omega)
    have T_25 := T_24.push A21 P_4_1 (by omega)
    have FL := fn_of (sp := spD W p_law) (base := base) (mg := mg) (w := w) (P := l.prog) (CX := CX0) (k := 21) lL cL sc_law (spD_len n_26) fun A outer s H vs Q E hr hsp => ?_
    · exact FL.mono (by omega)
    have TT : ∀ (A : Around) (outer : List Env) (s : Shared) (H : Hp) (E : XK), TX W nm _ cst 20 (cxOf L2.CX0 W.P W.w W.K mg base N_law "law" (L2.defScope s_law) fa (.ref cx4) A outer s H E).nox := fun A outer s H E => tx_of (k2 := 18) (x := "_law_told") (a := "call") (rd := "_law_read") (Ng := ["call"]) (by omega) rfl T_25 FT (PySem.W.mg_of X G aT) bT sc_told rfl body_told rfl (by decide +kernel) (by decide) (by decide) (hTB (cx4, P4) (List.mem_cons_of_mem _ (List.mem_cons_of_mem _ (List.mem_cons_of_mem _ (List.mem_cons_of_mem _ List.mem_cons_self))))) (List.mem_cons_of_mem _ (List.mem_cons_of_mem _ (List.mem_cons_of_mem _ (List.mem_cons_of_mem _ List.mem_cons_self)))) (tab_uniq (T := W.T) tU (List.mem_cons_of_mem _ (List.mem_cons_of_mem _ (List.mem_cons_of_mem _ (List.mem_cons_of_mem _ List.mem_cons_self)))))
    obtain ⟨t, ht, hq⟩ := okBody (tl := true) (lm := false) (φ := p_law) (T_25.mono (show 18 ≤ 20 by omega)) sc_law n_26 ck_law (fun ds S R hc h => b_law ⟨rfl, rfl, rfl, rfl, rfl, rfl, rfl, rfl, rfl, rfl, rfl, rfl, rfl, rfl⟩ hc h) hr (fun _ => TT _ _ _ _ _) (fun z => nomatch z) hsp
    exact ⟨t, ht.nox, hq⟩
end K13
open PySem PySem.W PyProof.Rows
set_option maxHeartbeats 0 in
theorem PySem.Challenge.cw_everysky_k13_blinks_and_frames_holds : PySem.Challenge.rw_everysky_k13_blinks_and_frames.Holds := by
  w_on; o_law; k_head; (case hw => w_witness2)
  k_fill
  refine LamX.walk_ofTs (l := PySem.Challenge.rw_everysky_k13_blinks_and_frames) (n := 63) (k := 200) (x := "script") (CX := fun _ => L2.CX0) rfl (by decide) rfl ⟨rfl, by decide, by decide⟩ (fun w h Y => PySem.W.km_in_of Y) ?F (fun _ _ _ _ _ h => h)
  case F =>
    intro w mg fa h Y KX G hmg
    have hT8 := PySem.W.km_tabs_of Y
    refine' K13.all_mk KX G hmg (hT8 79 (by decide)) (by kernel_rfl) ?tC0 (hT8 84 (by decide)) (by kernel_rfl) ?tC1 (hT8 207 (by decide)) (by kernel_rfl) ?tC2 (hT8 224 (by decide)) (by kernel_rfl) ?tC3 (hT8 231 (by decide)) (by kernel_rfl) ?tC4 (by decide) ?a0 ?l0 ?c0 ?k0 ?a1 ?l1 ?c1 ?k1 ?a2 ?l2 ?c2 ?k2 ?a3 ?l3 ?c3 ?k3 ?a4 ?l4 ?c4 ?k4 ?a5 ?l5 ?c5 ?k5 ?a6 ?l6 ?c6 ?k6 ?a7 ?l7 ?c7 ?k7 ?a8 ?l8 ?c8 ?k8 ?a9 ?l9 ?c9 ?k9 ?a10 ?l10 ?c10 ?k10 ?a11 ?l11 ?c11 ?k11 ?a12 ?l12 ?c12 ?k12 ?a13 ?l13 ?c13 ?k13 ?a14 ?l14 ?c14 ?k14 ?a15 ?l15 ?c15 ?k15 ?a16 ?l16 ?c16 ?k16 ?a17 ?l17 ?c17 ?k17 ?a18 ?l18 ?c18 ?k18 ?a19 ?l19 ?c19 ?k19 ?a20 ?l20 ?c20 ?k20 ?a21 ?l21 ?c21 ?k21 ?aL ?lL ?cL ?kL ?aT ?lT ?cT ?kT ?x0 ?x1 ?x2 ?x3 ?x4 ?x5 ?z_len ?z_abs ?z_int ?z_tuple ?z_list ?z_sum ?z_all ?z_any ?z_max ?z_min ?z_sorted ?z_range ?z_enumerate ?z_zip ?z_isinstance ?z_bool ?z_str ?z_dict ?z_set ?z_repr
    (case a0 => k_is)
    (case l0 => k_is)
    (case c0 => k_is)
    (case k0 => k_is)
    (case a1 => k_is)
    (case l1 => k_is)
    (case c1 => k_is)
    (case k1 => k_is)
    (case a2 => k_is)
    (case l2 => k_is)
    (case c2 => k_is)
    (case k2 => k_is)
    (case a3 => k_is)
    (case l3 => k_is)
    (case c3 => k_is)
    (case k3 => k_is)
    (case a4 => k_is)
    (case l4 => k_is)
    (case c4 => k_is)
    (case k4 => k_is)
    (case a5 => k_is)
    (case l5 => k_is)
    (case c5 => k_is)
    (case k5 => k_is)
    (case a6 => k_is)
    (case l6 => k_is)
    (case c6 => k_is)
    (case k6 => k_is)
    (case a7 => k_is)
    (case l7 => k_is)
    (case c7 => k_is)
    (case k7 => k_is)
    (case a8 => k_is)
    (case l8 => k_is)
    (case c8 => k_is)
    (case k8 => k_is)
    (case a9 => k_is)
    (case l9 => k_is)
    (case c9 => k_is)
    (case k9 => k_is)
    (case a10 => k_is)
    (case l10 => k_is)
    (case c10 => k_is)
    (case k10 => k_is)
    (case a11 => k_is)
    (case l11 => k_is)
    (case c11 => k_is)
    (case k11 => k_is)
    (case a12 => k_is)
    (case l12 => k_is)
    (case c12 => k_is)
    (case k12 => k_is)
    (case a13 => k_is)
    (case l13 => k_is)
    (case c13 => k_is)
    (case k13 => k_is)
    (case a14 => k_is)
    (case l14 => k_is)
    (case c14 => k_is)
    (case k14 => k_is)
    (case a15 => k_is)
    (case l15 => k_is)
    (case c15 => k_is)
    (case k15 => k_is)
    (case a16 => k_is)
    (case l16 => k_is)
    (case c16 => k_is)
    (case k16 => k_is)
    (case a17 => k_is)
    (case l17 => k_is)
    (case c17 => k_is)
    (case k17 => k_is)
    (case a18 => k_is)
    (case l18 => k_is)
    (case c18 => k_is)
    (case k18 => k_is)
    (case a19 => k_is)
    (case l19 => k_is)
    (case c19 => k_is)
    (case k19 => k_is)
    (case a20 => k_is)
    (case l20 => k_is)
    (case c20 => k_is)
    (case k20 => k_is)
    (case a21 => k_is)
    (case l21 => k_is)
    (case c21 => k_is)
    (case k21 => k_is)
    (case aL => k_is)
    (case lL => k_is)
    (case cL => k_is)
    (case kL => k_is)
    (case aT => k_is)
    (case lT => k_is)
    (case cT => k_is)
    (case kT => k_is)
    (case x0 => k_is)
    (case x1 => k_is)
    (case x2 => k_is)
    (case x3 => k_is)
    (case x4 => k_is)
    (case x5 => k_is)
    (case z_len => k_is)
    (case z_abs => k_is)
    (case z_int => k_is)
    (case z_tuple => k_is)
    (case z_list => k_is)
    (case z_sum => k_is)
    (case z_all => k_is)
    (case z_any => k_is)
    (case z_max => k_is)
    (case z_min => k_is)
    (case z_sorted => k_is)
    (case z_range => k_is)
    (case z_enumerate => k_is)
    (case z_zip => k_is)
    (case z_isinstance => k_is)
    (case z_bool => k_is)
    (case z_str => k_is)
    (case z_dict => k_is)
    (case z_set => k_is)
    (case z_repr => k_is)
    (case tC0 => exact PySem.W.codeHd_of_K KX (by kernel_rfl))
    (case tC1 => exact PySem.W.codeHd_of_K KX (by kernel_rfl))
    (case tC2 => exact PySem.W.codeHd_of_K KX (by kernel_rfl))
    (case tC3 => exact PySem.W.codeHd_of_K KX (by kernel_rfl))
    (case tC4 => exact PySem.W.codeHd_of_K KX (by kernel_rfl))
