import PyProof.Rows.All
import Wide.All
import OpenK.AllK
import Wide.FinOn
import HandS.ForMost
import HandS.Exc
import HandS.TryOnly
import HandS.ExcOwn
import HandS.WordsExc
import HandS.Deep
import HandS.IsInst
import HandS.Defaults
import HandS.TupMul
import HandS.TupAny
import HandS.Walk
import HandS.Zip
import HandS.AnyAll
import HandS.Lambda
import KE.KDictDisplayH
import KE.KeyNested
import HandS.CallSlots
import HandS.Style
import KE.KDictKeyed
import HandS.More
import PyProof.DictTable
import HandS.Text
import HandS.Conv
import HandS.SetFor
import HandS.RaiseMore
import HandS.GenList
import PyProof.GenCompD
import PyProof.ConsumeS
import HandS.HeadWalk
import HandS.HeadHook4
import HandS.EndTab
import HandS.Head0
import HandS.Head1
import HandS.Head2
import HandS.HeadEnd
import KE.SortCalls
import HandS.SortOrd
import HandS.SortRule
import KE.GoesEnum
import KE.GoesZip
import KE.KDictZip
import HandS.ExcInit
import HandS.ExcField
import PyProof.ExcBaseAll.ValueError
import KE.KExcIs
import HandS.NestedK
import HandS.Rev
import HandS.Small
import HandS.TupSets
import HandS.Iter
import PySem.Challenge.RW_toldwhat_k70_counts_and_tales_refused
set_option Elab.async false
set_option linter.all false
set_option maxRecDepth 100000
set_option maxHeartbeats 4000000
section
/-! A layer of plain values over the hand layer: slots hold values (PyData, deep) or lists that they own. -/
namespace TW
open PySem PySem.Spec PyProof.Rows L2

/-! ### values -/
/-- the key of a dict's item -/
def keyD : PyData → Option Key
  | .int i => some (.inl i)
  | .str x => some (.inr x)
  | _ => none
/-- a list that the program got and leaves as it is: a list's items, told by a name of its own -/
def scr (ns : List Int) : PyData := .dict [(.none, .list (ns.map PyData.int))]
mutual
/-- a dict's key that is None, a number, a text or a tuple of such -/
def keyN : PyData → Option NestedKey
  | .none => some .none
  | .int i => some (.num i)
  | .str x => some (.text x)
  | .tuple ds => (keyNs ds).map .tup
  | _ => none
def keyNs : List PyData → Option (List NestedKey)
  | [] => some []
  | d :: ds => match keyN d, keyNs ds with
    | some k, some ks => some (k :: ks)
    | _, _ => none
end
mutual
/-- no text within -/
def noTx : NestedKey → Bool
  | .text _ => false
  | .tup ks => noTxs ks
  | _ => true
def noTxs : List NestedKey → Bool
  | [] => true
  | k :: ks => noTx k && noTxs ks
end
mutual
/-- the hash of a key without texts -/
def nhash : NestedKey → Int
  | .none => reduceHash 0xFCA86420
  | .num i => hashInt i
  | .text _ => 0
  | .tup ks => reduceHash (Builtin.Tuple.tupleHashOf (nhashes ks))
def nhashes : List NestedKey → List Int
  | [] => []
  | k :: ks => nhash k :: nhashes ks
end
mutual
theorem nhash_eq {w : World} : ∀ k : NestedKey, noTx k = true → k.hash w = nhash k
  | .none, _ => rfl
  | .num i, _ => rfl
  | .tup ks, h => by rw [NestedKey.hash, nhash, nhashes_eq ks h]
theorem nhashes_eq {w : World} : ∀ ks : List NestedKey, noTxs ks = true → NestedKey.hashes w ks = nhashes ks
  | [], _ => rfl
  | k :: ks, h => by
    rw [noTxs, Bool.and_eq_true] at h
    rw [NestedKey.hashes, nhashes, nhash_eq k h.1, nhashes_eq ks h.2]
end
/-- the dict at a whose keys are tuples: the keys, where they stand, the values -/
def rawN (hs : NestedKey → Int) (a : Addr) (xs : List (NestedKey × Addr × Value)) : HO := .ext fun h => xs.length ≤ sizeLine ∧ (a == sysModules) = false ∧ (xs.map (·.1)).Nodup ∧
  ∃ (o : Obj) (es : Array DictEntry) (ep : Nat), h.get? a = some o ∧ o.ExactDict ∧ o.data = .dict es ep ∧ es.toList = xs.map fun x => (⟨hs x.1, .ref x.2.1, x.2.2⟩ : DictEntry)
theorem rawN_notCode {hs : NestedKey → Int} {a c : Addr} {q : Str} {xs : List (NestedKey × Addr × Value)} (e : a = c) : rawN hs a xs ≠ LamX.CodeO c q := by
  intro z
  subst e
  unfold rawN LamX.CodeO at z
  have z := HO.ext.inj z
  let ob : Obj := { cls := .none, data := .fields #[.none, .str q 0] }
  let h : Heap := { objs := Array.replicate (a + 1) ob }
  have hg : h.get? a = some ob := by
    unfold Heap.get?
    have e : h.objs[a]? = some ob := by
      show (Array.replicate (a + 1) ob)[a]? = some ob
      rw [Array.getElem?_replicate, if_pos (Nat.lt_succ_self a)]
    rw [e]
  have w := congrFun z h
  obtain ⟨_, _, _, o, es, ep, h1, _, h3, _⟩ := w.mpr ⟨ob, _, 0, hg, rfl, rfl⟩
  rw [hg] at h1
  cases h1
  cases h3
/-- the address of a class of the program by its name -/
def clsAt (K : PySem.W.Frag) (c : Str) : Addr := match PySem.W.nsIn K mainGlobals c with
  | some (some (.ref a)) => a
  | _ => 0
def isTupD : PyData → Bool
  | .tuple _ => true
  | _ => false
mutual
/-- v stands for the value d; what is asked of the heap is asked of G, the part that no one changes -/
def Rv (K : PySem.W.Frag) (G : Hp) : PyData → V → Prop
  | .none, v => v = .non
  | .bool b, v => v = .bl b
  | .int i, v => v = .int i
  | .str x, v => v = .str x
  | .list ds, v => ∃ a xs, v = .ref a ∧ G a = some (HO.lst xs) ∧ RvA K G ds xs
  | .tuple ds, v => ∃ a xs, v = .ref a ∧ SqT K G a xs ∧ RvA K G ds xs
  | .dict kvs, v => (∃ a ns, .dict kvs = scr ns ∧ v = .ref a ∧ SqL K G a (ns.map V.int)) ∨ (∃ a ks, v = .ref a ∧ G a = some (HO.dK ks) ∧ RvD K G kvs ks) ∨
      (∃ a xs, v = .ref a ∧ G a = some (rawN nhash a xs) ∧ xs ≠ [] ∧ (∀ x ∈ xs, noTx x.1 = true) ∧ RvN K G kvs xs) ∨
      ∃ a dx c vs, v = .ref a ∧ G a = some (HO.ins (clsAt K c) dx vs) ∧ G dx = some (.own a) ∧ RvI K G kvs ((PyData.none, V.str c) :: vs.map fun p => (PyData.str p.1, p.2))
def RvA (K : PySem.W.Frag) (G : Hp) : List PyData → List V → Prop
  | [], xs => xs = []
  | d :: ds, xs => ∃ x r, xs = x :: r ∧ Rv K G d x ∧ RvA K G ds r
def RvD (K : PySem.W.Frag) (G : Hp) : List (PyData × PyData) → List (Key × V) → Prop
  | [], ks => ks = []
  | p :: kvs, ks => ∃ x r, ks = x :: r ∧ RvP K G p x ∧ RvD K G kvs r
def RvP (K : PySem.W.Frag) (G : Hp) : PyData × PyData → Key × V → Prop
  | (k, d), x => keyD k = some x.1 ∧ Rv K G d x.2
def RvN (K : PySem.W.Frag) (G : Hp) : List (PyData × PyData) → List (NestedKey × Addr × Value) → Prop
  | [], xs => xs = []
  | p :: kvs, xs => ∃ x r, xs = x :: r ∧ RvNP K G p x ∧ RvN K G kvs r
def RvNP (K : PySem.W.Frag) (G : Hp) : PyData × PyData → NestedKey × Addr × Value → Prop
  | (k, d), x => keyN k = some x.1 ∧ x.1.depth ≤ 8 ∧ isTupD k = true ∧ Rv K G k (.ref x.2.1) ∧ ∃ v, RelV v x.2.2 ∧ Rv K G d v
def RvI (K : PySem.W.Frag) (G : Hp) : List (PyData × PyData) → List (PyData × V) → Prop
  | [], xs => xs = []
  | p :: kvs, xs => ∃ x r, xs = x :: r ∧ RvIP K G p x ∧ RvI K G kvs r
def RvIP (K : PySem.W.Frag) (G : Hp) : PyData × PyData → PyData × V → Prop
  | (k, d), x => k = x.1 ∧ Rv K G d x.2
end
section
variable {K : PySem.W.Frag} {G G' H : Hp}
theorem same_l {a : Addr} {xs : List V} (e : Same G G') (h : G a = some (HO.lst xs)) : SqL K G' a xs := .inl (.inl (e _ _ h))
theorem same_t {a : Addr} {xs : List V} (e : Same G G') (h : SqT K G a xs) : SqT K G' a xs := by
  rcases h with (h | ⟨o, h⟩) | h
  · exact .inl (.inl (e _ _ h))
  · exact .inl (.inr ⟨o, e _ _ h⟩)
  · exact .inr h
mutual
theorem Rv.mono (e : Same G G') : ∀ (d : PyData) (v : V), Rv K G d v → Rv K G' d v
  | .none, _, h => h
  | .bool _, _, h => h
  | .int _, _, h => h
  | .str _, _, h => h
  | .list ds, v, ⟨a, xs, h1, h2, h3⟩ => ⟨a, xs, h1, e _ _ h2, RvA.mono e ds xs h3⟩
  | .tuple ds, v, ⟨a, xs, h1, h2, h3⟩ => ⟨a, xs, h1, same_t e h2, RvA.mono e ds xs h3⟩
  | .dict kvs, v, .inl ⟨a, ns, h1, h2, h3⟩ => .inl ⟨a, ns, h1, h2, e.seq h3⟩
  | .dict kvs, v, .inr (.inl ⟨a, ks, h1, h2, h3⟩) => .inr (.inl ⟨a, ks, h1, e _ _ h2, RvD.mono e kvs ks h3⟩)
  | .dict kvs, v, .inr (.inr (.inl ⟨a, xs, h1, h2, h0, h3, h4⟩)) => .inr (.inr (.inl ⟨a, xs, h1, e _ _ h2, h0, h3, RvN.mono e kvs xs h4⟩))
  | .dict kvs, v, .inr (.inr (.inr ⟨a, dx, c, vs, h1, h2, h3, h4⟩)) => .inr (.inr (.inr ⟨a, dx, c, vs, h1, e _ _ h2, e _ _ h3, RvI.mono e kvs _ h4⟩))
theorem RvA.mono (e : Same G G') : ∀ (ds : List PyData) (xs : List V), RvA K G ds xs → RvA K G' ds xs
  | [], _, h => h
  | d :: ds, _, ⟨x, r, h1, h2, h3⟩ => ⟨x, r, h1, Rv.mono e d x h2, RvA.mono e ds r h3⟩
theorem RvD.mono (e : Same G G') : ∀ (ds : List (PyData × PyData)) (xs : List (Key × V)), RvD K G ds xs → RvD K G' ds xs
  | [], _, h => h
  | p :: ds, _, ⟨x, r, h1, h2, h3⟩ => ⟨x, r, h1, RvP.mono e p x h2, RvD.mono e ds r h3⟩
theorem RvP.mono (e : Same G G') : ∀ (p : PyData × PyData) (x : Key × V), RvP K G p x → RvP K G' p x
  | (k, d), x, h => ⟨h.1, Rv.mono e d x.2 h.2⟩
theorem RvN.mono (e : Same G G') : ∀ (ds : List (PyData × PyData)) (xs : List (NestedKey × Addr × Value)), RvN K G ds xs → RvN K G' ds xs
  | [], _, h => h
  | p :: ds, _, ⟨x, r, h1, h2, h3⟩ => ⟨x, r, h1, RvNP.mono e p x h2, RvN.mono e ds r h3⟩
theorem RvNP.mono (e : Same G G') : ∀ (p : PyData × PyData) (x : NestedKey × Addr × Value), RvNP K G p x → RvNP K G' p x
  | (k, d), x, ⟨h1, h2, h3, h4, v, h5, h6⟩ => ⟨h1, h2, h3, Rv.mono e k _ h4, v, h5, Rv.mono e d v h6⟩
theorem RvI.mono (e : Same G G') : ∀ (ds : List (PyData × PyData)) (xs : List (PyData × V)), RvI K G ds xs → RvI K G' ds xs
  | [], _, h => h
  | p :: ds, _, ⟨x, r, h1, h2, h3⟩ => ⟨x, r, h1, RvIP.mono e p x h2, RvI.mono e ds r h3⟩
theorem RvIP.mono (e : Same G G') : ∀ (p : PyData × PyData) (x : PyData × V), RvIP K G p x → RvIP K G' p x
  | (k, d), x, h => ⟨h.1, Rv.mono e d x.2 h.2⟩
end
/-- the own dict at a: its keys are numbers and texts, or tuples -/
def DcO (hs : NestedKey → Int) (K : PySem.W.Frag) (G : Hp) (kvs : List (PyData × PyData)) (a : Addr) (o : HO) : Prop :=
  (∃ ks, o = .dK ks ∧ RvD K G kvs ks) ∨ ∃ xs, o = rawN hs a xs ∧ xs ≠ [] ∧ RvN K G kvs xs
theorem DcO.mono {hs : NestedKey → Int} (e : Same G G') {kvs : List (PyData × PyData)} {a : Addr} {o : HO} (h : DcO hs K G kvs a o) : DcO hs K G' kvs a o :=
  h.elim (fun ⟨ks, h1, h2⟩ => .inl ⟨ks, h1, RvD.mono e _ _ h2⟩) fun ⟨xs, h1, h0, h2⟩ => .inr ⟨xs, h1, h0, RvN.mono e _ _ h2⟩
theorem DcO.notTbl {hs : NestedKey → Int} {kvs : List (PyData × PyData)} {a : Addr} {o : HO} (h : DcO hs K G kvs a o) (ps : Array Value) : o ≠ .tbl ps := by
  rcases h with ⟨ks, h1, _⟩ | ⟨xs, h1, _⟩
  · subst h1; exact fun z => by cases z
  · subst h1; unfold rawN; exact fun z => by cases z
theorem DcO.notLst {hs : NestedKey → Int} {kvs : List (PyData × PyData)} {a : Addr} {o : HO} (h : DcO hs K G kvs a o) (ys : List V) : o ≠ .lst ys := by
  rcases h with ⟨ks, h1, _⟩ | ⟨xs, h1, _⟩
  · subst h1; exact fun z => by cases z
  · subst h1; unfold rawN; exact fun z => by cases z
theorem DcO.notCode {hs : NestedKey → Int} {kvs : List (PyData × PyData)} {a : Addr} {o : HO} (h : DcO hs K G kvs a o) (q : Str) : o ≠ LamX.CodeO a q := by
  rcases h with ⟨ks, h1, _⟩ | ⟨xs, h1, _⟩
  · subst h1; intro z; unfold LamX.CodeO at z; cases z
  · subst h1; exact rawN_notCode rfl
mutual
theorem Rv.dp (e : Same G H) : ∀ (d : PyData) (v : V), d.canLay0 = true → Rv K G d v → Dp K H v d
  | .none, _, _, h => by cases h; exact .non
  | .bool _, _, _, h => by cases h; exact .bl _
  | .int _, _, _, h => by cases h; exact .int _
  | .str _, _, _, h => by cases h; exact .str _
  | .list ds, v, c, ⟨a, xs, h1, h2, h3⟩ => by subst h1; exact .lst (same_l e h2) (RvA.dp e ds xs (by simpa [PyData.canLay0] using c) h3)
  | .tuple ds, v, c, ⟨a, xs, h1, h2, h3⟩ => by subst h1; exact .tup (same_t e h2) (RvA.dp e ds xs (by simpa [PyData.canLay0] using c) h3)
  | .dict _, _, c, _ => by simp [PyData.canLay0] at c
theorem RvA.dp (e : Same G H) : ∀ (ds : List PyData) (xs : List V), PyData.canLayAll0 ds = true → RvA K G ds xs → DpAll K H xs ds
  | [], _, _, h => by cases h; exact .nil
  | d :: ds, _, c, ⟨x, r, h1, h2, h3⟩ => by
    subst h1
    have c : (d.canLay0 && PyData.canLayAll0 ds) = true := by simpa [PyData.canLayAll0] using c
    rw [Bool.and_eq_true] at c
    exact .cons (Rv.dp e d x c.1 h2) (RvA.dp e ds r c.2 h3)
end
theorem RvA.len : ∀ {ds : List PyData} {xs : List V}, RvA K G ds xs → xs.length = ds.length
  | [], _, h => by cases h; rfl
  | d :: ds, _, ⟨x, r, h1, _, h3⟩ => by subst h1; simp [RvA.len h3]
theorem RvA.at : ∀ {ds : List PyData} {xs : List V} {i : Nat} {d : PyData}, RvA K G ds xs → ds[i]? = some d → ∃ x, xs[i]? = some x ∧ Rv K G d x
  | [], _, _, _, _, h => by simp at h
  | d :: ds, _, 0, _, ⟨x, r, h1, h2, h3⟩, h => by subst h1; simp at h; subst h; exact ⟨x, rfl, h2⟩
  | d :: ds, _, i + 1, _, ⟨x, r, h1, h2, h3⟩, h => by subst h1; simpa using RvA.at (i := i) h3 (by simpa using h)
theorem RvA.at' : ∀ {ds : List PyData} {xs : List V} {i : Nat} {x : V}, RvA K G ds xs → xs[i]? = some x → ∃ d, ds[i]? = some d ∧ Rv K G d x
  | [], _, _, _, h, e => by cases h; simp at e
  | d :: ds, _, 0, _, ⟨x, r, h1, h2, h3⟩, h => by subst h1; simp at h; subst h; exact ⟨d, rfl, h2⟩
  | d :: ds, _, i + 1, _, ⟨x, r, h1, h2, h3⟩, h => by subst h1; simpa using RvA.at' (i := i) h3 (by simpa using h)
theorem RvA.app : ∀ {ds es : List PyData} {xs ys : List V}, RvA K G ds xs → RvA K G es ys → RvA K G (ds ++ es) (xs ++ ys)
  | [], _, _, _, h, q => by cases h; exact q
  | d :: ds, _, _, _, ⟨x, r, h1, h2, h3⟩, q => by subst h1; exact ⟨x, r ++ _, rfl, h2, RvA.app h3 q⟩
theorem RvA.one {d : PyData} {x : V} (h : Rv K G d x) : RvA K G [d] [x] := ⟨x, [], rfl, h, rfl⟩
theorem RvA.drop : ∀ (n : Nat) {ds : List PyData} {xs : List V}, RvA K G ds xs → RvA K G (ds.drop n) (xs.drop n)
  | 0, _, _, h => h
  | n + 1, [], _, h => by cases h; simp; exact rfl
  | n + 1, d :: ds, _, ⟨x, r, h1, _, h3⟩ => by subst h1; exact RvA.drop n h3
theorem RvA.take : ∀ (n : Nat) {ds : List PyData} {xs : List V}, RvA K G ds xs → RvA K G (ds.take n) (xs.take n)
  | 0, _, _, _ => rfl
  | n + 1, [], _, h => by cases h; exact rfl
  | n + 1, d :: ds, _, ⟨x, r, h1, h2, h3⟩ => by subst h1; exact ⟨x, r.take n, rfl, h2, RvA.take n h3⟩
theorem RvA.set : ∀ (n : Nat) {ds : List PyData} {xs : List V} {d : PyData} {x : V}, RvA K G ds xs → Rv K G d x → RvA K G (ds.set n d) (xs.set n x)
  | _, [], _, _, _, h, _ => by cases h; exact rfl
  | 0, d :: ds, _, _, _, ⟨x, r, h1, _, h3⟩, q => by subst h1; exact ⟨_, r, rfl, q, h3⟩
  | n + 1, d :: ds, _, _, _, ⟨x, r, h1, h2, h3⟩, q => by subst h1; exact ⟨x, _, rfl, h2, RvA.set n h3 q⟩
theorem RvA.ints : ∀ {ns : List Int}, RvA K G (ns.map PyData.int) (ns.map V.int)
  | [] => rfl
  | n :: ns => ⟨_, _, rfl, rfl, RvA.ints⟩
end

/-! ### slots -/
/-- an own object that is no list: a dict by its keys and values -/
inductive Xv where
  | d (kvs : List (PyData × PyData))
/-- what a name owns -/
inductive Ow where
  | l (ds : List PyData) | x (y : Xv)
/-- an exception: its class's name, its fields -/
structure Ex where
  c : Str
  fs : List (Str × PyData)
/-- a name of a def: nothing is known; a value; a list that no one else holds; a list that the caller holds, to be given back; x: an own object; xo: an own object of the caller's, to be given back; ev: a caught exception -/
inductive Sl where
  | un | v (d : PyData) | l (ds : List PyData) | io (ds : List PyData) | x (y : Xv) | xo (y : Xv) | ev (e : Ex)
def Sl.own : Sl → Option Ow
  | .l ds => some (.l ds)
  | .io ds => some (.l ds)
  | .x y => some (.x y)
  | .xo y => some (.x y)
  | _ => none
def Sl.isIo : Sl → Bool
  | .io _ => true
  | .xo _ => true
  | _ => false
inductive Res (α : Type) where
  | ok (a : α) (r : List Sl)
  | ex (e : Ex) (r : List Sl)
  | st
abbrev M (α : Type) := List Sl → Res α
def Res.bind {α β : Type} : Res α → (α → M β) → Res β
  | .ok a r, k => k a r
  | .ex e r, _ => .ex e r
  | .st, _ => .st
def M.bind {α β : Type} (d : M α) (k : α → M β) : M β := fun r => (d r).bind k
def M.ret {α : Type} (a : α) : M α := fun r => .ok a r
def M.st {α : Type} : M α := fun _ => .st
def M.opt {α : Type} : Option α → M α
  | some a => .ret a
  | none => .st

/-- a def's table of code objects: of generators, or of lambdas that bear that name -/
structure TbK where
  P : Addr
  q : Option Str
def TabQ (H : Hp) (z : TbK) : Prop := ∃ ps : Array Value, H z.P = some (.tbl ps) ∧ TriplesOk ps.toList ∧ ∀ q, z.q = some q → ∀ (pos : Pos) (cv : Value), codeAmong pos ps.toList = some cv → ∃ c, cv = .ref c ∧ H c = some (LamX.CodeO c q)
theorem TabQ.keep {H H' : Hp} {z : TbK} (t : TabQ H z) (k1 : ∀ ps, H z.P = some (.tbl ps) → H' z.P = some (.tbl ps)) (k2 : ∀ c q, H c = some (LamX.CodeO c q) → H' c = some (LamX.CodeO c q)) : TabQ H' z := by
  obtain ⟨ps, h1, h2, h3⟩ := t
  refine ⟨ps, k1 _ h1, h2, fun q hq pos cv hc => ?_⟩
  obtain ⟨c, e1, e2⟩ := h3 q hq pos cv hc
  exact ⟨c, e1, k2 _ _ e2⟩
theorem TabQ.upd {H : Hp} {D : Addr} {o u : HO} {z : TbK} (t : TabQ H z) (h : H D = some u) (h1 : ∀ ps, u ≠ .tbl ps) (h2 : ∀ q, u ≠ LamX.CodeO D q) : TabQ (upd H D o) z :=
  t.keep (fun ps e => by rw [upd_ne fun x => h1 ps (by rw [x, h] at e; exact Option.some.inj e)]; exact e) fun c q e => by
    rw [upd_ne fun x => h2 q (by rw [x, h] at e; exact Option.some.inj e)]
    exact e
theorem codeO_lst {c : Addr} {q : Str} {xs : List V} : HO.lst xs ≠ LamX.CodeO c q := fun z => by unfold LamX.CodeO at z; cases z
theorem codeO_dK {c : Addr} {q : Str} {xs : List (Key × V)} : HO.dK xs ≠ LamX.CodeO c q := fun z => by unfold LamX.CodeO at z; cases z
theorem TabQ.g {H : Hp} {z : TbK} (t : TabQ H z) : GxR.TabG H z.P := let ⟨ps, a, b, _⟩ := t; ⟨ps, a, b⟩
/-- a caught exception: where it stands, its class, its dict -/
structure EvZ where
  a : Addr
  c : Value
  d : Option Addr
/-- the tables, the exception that is being handled, the world's hashes -/
structure TGx where
  ts : List TbK
  ev : Option EvZ
  hs : NestedKey → Int
  ok : ∀ k, noTx k = true → hs k = nhash k
instance : Membership TbK TGx := ⟨fun g z => z ∈ g.ts⟩
def tgOf (w : World) (l : List TbK) : TGx := ⟨l, none, fun k => k.hash w, fun k h => nhash_eq k h⟩
/-- the class and the own dict of such an exception -/
def ExR (K : PySem.W.Frag) (G : Hp) (e : Ex) (c : Value) (dx : Option Addr) : Prop :=
  c = .ref (clsAt K e.c) ∧
    (match e.fs with
      | [] => dx = none
      | fs => ∃ d vs, dx = some d ∧ G d = some (.xd vs) ∧ vs.map (·.1) = fs.map (·.1) ∧ RvA K G (fs.map (·.2)) (vs.map (·.2)))
theorem ExR.mono {K : PySem.W.Frag} {G G' : Hp} (s : Same G G') {e : Ex} {c : Value} {dx : Option Addr} (h : ExR K G e c dx) : ExR K G' e c dx := by
  refine ⟨h.1, ?_⟩
  obtain ⟨n, fs⟩ := e
  cases fs with
  | nil => exact h.2
  | cons f fs =>
    obtain ⟨d, vs, h1, h2, h3, h4⟩ := h.2
    exact ⟨d, vs, h1, s _ _ h2, h3, RvA.mono s _ _ h4⟩
/-- the own object o at a -/
def OwR (TG : TGx) (K : PySem.W.Frag) (G : Hp) (a : Addr) : Ow → HO → Prop
  | .l ds, o => ∃ xs, o = .lst xs ∧ RvA K G ds xs
  | .x (.d kvs), o => DcO TG.hs K G kvs a o
theorem OwR.mono {TG : TGx} {K : PySem.W.Frag} {G G' : Hp} {a : Addr} (e : Same G G') : ∀ {w : Ow} {o : HO}, OwR TG K G a w o → OwR TG K G' a w o
  | .l ds, _, ⟨xs, h1, h2⟩ => ⟨xs, h1, RvA.mono e _ _ h2⟩
  | .x (.d _), _, h => DcO.mono e h
theorem OwR.notTbl {TG : TGx} {K : PySem.W.Frag} {G : Hp} {a : Addr} : ∀ {w : Ow} {o : HO}, OwR TG K G a w o → ∀ ps, o ≠ .tbl ps
  | .l ds, _, ⟨xs, h1, _⟩, ps => by subst h1; exact fun z => by cases z
  | .x (.d _), _, h, ps => DcO.notTbl h ps
theorem OwR.notCode {TG : TGx} {K : PySem.W.Frag} {G : Hp} {a : Addr} : ∀ {w : Ow} {o : HO}, OwR TG K G a w o → ∀ q, o ≠ LamX.CodeO a q
  | .l ds, _, ⟨xs, h1, _⟩, q => by subst h1; exact codeO_lst
  | .x (.d _), _, h, q => DcO.notCode h q
/-- the state as plain values: B the names that are given back, F what the callers hold, G0 the values' part at the entry, G now -/
structure SR (K : PySem.W.Frag) (TG : TGx) (B : List (Nat × Addr)) (F G0 G H : Hp) (r : List Sl) (s : L2.St) : Prop where
  len : r.length = s.length
  gh : Same G H
  fh : Same F H
  g0 : Same G0 G
  fg : ∀ b u, G b = some u → F b = none ∨ G0 b = some u
  gt : ∀ b ps, G b ≠ some (.tbl ps)
  ft : ∀ b ps, F b ≠ some (.tbl ps)
  tb : ∀ z ∈ TG, TabQ H z
  vals : ∀ (i : Nat) (d : PyData), r[i]? = some (Sl.v d) → ∃ v, s[i]? = some (some v) ∧ Rv K G d v
  owns : ∀ (i : Nat) (w : Ow), r[i]?.bind Sl.own = some w → ∃ a o, s[i]? = some (some (V.ref a)) ∧ H a = some o ∧ OwR TG K G a w o ∧ G a = none ∧ F a = none
  sep : ∀ (i j : Nat) (a : Addr) (ds es : Ow), i ≠ j → r[i]?.bind Sl.own = some ds → r[j]?.bind Sl.own = some es → s[i]? = some (some (V.ref a)) → s[j]? ≠ some (some (V.ref a))
  ios : ∀ p ∈ B, (∃ y, r[p.1]? = some y ∧ y.isIo = true) ∧ s[p.1]? = some (some (V.ref p.2))
  evs : ∀ (i : Nat) (e : Ex), r[i]? = some (Sl.ev e) → ∃ z, TG.ev = some z ∧ s[i]? = some (some (V.ref z.a)) ∧ ExR K G e z.c z.d


/-- a relation of what a denotation gives to what the layer gives -/
abbrev RL (α β : Type) := Hp → α → β → Prop
section
variable (K : PySem.W.Frag) (TG : TGx) (W : WX)
def post {α β : Type} (R : RL α β) (B : List (Nat × Addr)) (F G0 G : Hp) (s : L2.St) (Q : β → Hp → Prop) : Res α → Prop
  | .ok a r => ∀ G' H' b, Same G G' → SR K TG B F G0 G' H' r s → R G' a b → Q b H'
  | .ex e r => ∀ G' H' c dx, Same G G' → SR K TG B F G0 G' H' r s → ExR K G' e c dx → W c dx s H'
  | .st => False
def rd {α β : Type} (R : RL α β) (d : M α) (s : L2.St) (H : Hp) (Q : β → Hp → Prop) : Prop :=
  ∃ B F G0 G r, SR K TG B F G0 G H r s ∧ post K TG W R B F G0 G s Q (d r)
end
def RE (K : PySem.W.Frag) : RL PyData V := fun G d v => Rv K G d v
def RB : RL Bool Bool := fun _ a b => a = b
/-- e denotes d -/
def DE (X : Cx) (TG : TGx) (W : WX) (e : Expr) (d : M PyData) : Prop := PE X e (rd X.K TG W (RE X.K) d)
def DT (X : Cx) (TG : TGx) (W : WX) (e : Expr) (d : M Bool) : Prop := PT X e (rd X.K TG W RB d)
section
variable {K : PySem.W.Frag} {TG : TGx} {W : WX} {B : List (Nat × Addr)} {F G0 G G1 : Hp} {s : L2.St} {H : Hp}
theorem post_mono {α β : Type} {R : RL α β} {Q : β → Hp → Prop} (e : Same G G1) : ∀ (x : Res α), post K TG W R B F G0 G s Q x → post K TG W R B F G0 G1 s Q x
  | .ok a r, h => fun G' H' b e' => h G' H' b (e.trans e')
  | .ex x r, h => fun G' H' c dx e' => h G' H' c dx (e.trans e')
  | .st, h => h
theorem post_imp {α β : Type} {R : RL α β} {Q Q' : β → Hp → Prop} (q : ∀ b H, Q b H → Q' b H) : ∀ (x : Res α), post K TG W R B F G0 G s Q x → post K TG W R B F G0 G s Q' x
  | .ok a r, h => fun G' H' b e' i z => q _ _ (h G' H' b e' i z)
  | .ex x r, h => h
  | .st, h => h
/-- two in a row -/
theorem post_bind {α β γ δ : Type} {R1 : RL α β} {R2 : RL γ δ} {Q : δ → Hp → Prop} {k : α → M γ} : ∀ (x : Res α), post K TG W R2 B F G0 G s Q (x.bind k) →
    post K TG W R1 B F G0 G s (fun b H1 => ∃ G1 r1 a, Same G G1 ∧ SR K TG B F G0 G1 H1 r1 s ∧ R1 G1 a b ∧ post K TG W R2 B F G0 G1 s Q (k a r1)) x
  | .ok a r, h => fun G' H' b e i z => ⟨G', r, a, e, i, z, post_mono e _ h⟩
  | .ex x r, h => h
  | .st, h => h
theorem rd_bind {α β γ δ : Type} {R1 : RL α β} {R2 : RL γ δ} {Q : δ → Hp → Prop} {d : M α} {k : α → M γ} (h : rd K TG W R2 (d.bind k) s H Q) :
    rd K TG W R1 d s H (fun b H1 => ∃ B F G0 G1 r1 a, SR K TG B F G0 G1 H1 r1 s ∧ R1 G1 a b ∧ post K TG W R2 B F G0 G1 s Q (k a r1)) := by
  obtain ⟨B, F, G0, G, r, i, p⟩ := h
  exact ⟨B, F, G0, G, r, i, post_imp (fun b H1 ⟨G1, r1, a, _, x, y, z⟩ => ⟨B, F, G0, G1, r1, a, x, y, z⟩) _ (post_bind _ p)⟩
end
theorem PE_imp {X : Cx} {e : Expr} {t t' : TE} (h : PE X e t) (w : ∀ s H Q, t' s H Q → t s H Q) : PE X e t' := ⟨fun pins s σ H Q I q => h.run pins s σ H Q I (w _ _ _ q)⟩
theorem PT_imp {X : Cx} {e : Expr} {t t' : TT} (h : PT X e t) (w : ∀ s H Q, t' s H Q → t s H Q) : PT X e t' := ⟨fun pins s σ H Q I q => h.run pins s σ H Q I (w _ _ _ q)⟩
theorem PA_imp {X : Cx} {e : List Expr} {t t' : TA} (h : PA X e t) (w : ∀ s H Q, t' s H Q → t s H Q) : PA X e t' := ⟨fun pos pins s σ H Q I q => h.run pos pins s σ H Q I (w _ _ _ q)⟩
theorem PS_imp {X : Cx} {e : Stmt} {t t' : TS} (h : PS X e t) (w : ∀ D s H, t' D s H → t D s H) : PS X e t' := ⟨fun pins s σ H D I q => h.run pins s σ H D I (w _ _ _ q)⟩
theorem PSs_imp {X : Cx} {e : List Stmt} {t t' : TS} (h : PSs X e t) (w : ∀ D s H, t' D s H → t D s H) : PSs X e t' := ⟨fun pins s σ H D I q => h.run pins s σ H D I (w _ _ _ q)⟩

/-! ### the heap grows -/
/-- new objects alone, put into the values' part -/
structure Grow (G H G' H' : Hp) : Prop where
  g : Same G G'
  h : Same H H'
  gh : Same G' H'
  old : ∀ b u, G' b = some u → G b = some u ∨ H b = none
  gt : ∀ b ps, G' b = some (.tbl ps) → G b = some (.tbl ps)
theorem Grow.refl {G H : Hp} (e : Same G H) : Grow G H G H := ⟨.refl _, .refl _, e, fun _ _ h => .inl h, fun _ _ h => h⟩
theorem Grow.trans {G H G1 H1 G2 H2 : Hp} (a : Grow G H G1 H1) (b : Grow G1 H1 G2 H2) : Grow G H G2 H2 :=
  ⟨a.g.trans b.g, a.h.trans b.h, b.gh, fun c u h => (b.old c u h).elim (fun h => a.old c u h) (fun h => .inr (a.h.free h)), fun c ps h => a.gt c ps (b.gt c ps h)⟩
theorem same_new {H : Hp} {p : Addr} {o : HO} (h : H p = none) : Same H (upd H p o) := fun b x e => by
  rw [upd_ne (ne_of_none e h)]
  exact e
theorem none_sub {G H : Hp} (e : Same G H) {p : Addr} (h : H p = none) : G p = none := e.free h
theorem Grow.new {G H : Hp} (e : Same G H) {p : Addr} (hp : H p = none) (o : HO) (ho : ∀ ps, o ≠ .tbl ps) : Grow G H (upd G p o) (upd H p o) := by
  have gp := none_sub e hp
  refine ⟨same_new gp, same_new hp, fun b u q => ?_, fun b u q => ?_, fun b ps q => ?_⟩
  · by_cases z : b = p
    · subst z; rw [upd_same] at q ⊢; exact q
    · rw [upd_ne z] at q ⊢; exact e _ _ q
  · by_cases z : b = p
    · subst z; exact .inr hp
    · rw [upd_ne z] at q; exact .inl q
  · by_cases z : b = p
    · subst z; rw [upd_same] at q; cases q; exact absurd rfl (ho ps)
    · rw [upd_ne z] at q; exact q
theorem tab_same {H H' : Hp} (e : Same H H') {z : TbK} (h : TabQ H z) : TabQ H' z := h.keep (fun _ q => e _ _ q) fun _ _ q => e _ _ q
theorem SR.grow {K : PySem.W.Frag} {TG : TGx} {B : List (Nat × Addr)} {F G0 G H G' H' : Hp} {r : List Sl} {s : L2.St} (i : SR K TG B F G0 G H r s) (g : Grow G H G' H') : SR K TG B F G0 G' H' r s where
  len := i.len
  gh := g.gh
  fh := i.fh.trans g.h
  g0 := i.g0.trans g.g
  fg := fun b u h => by
    rcases g.old b u h with h | h
    · exact i.fg b u h
    · exact .inl (none_sub i.fh h)
  gt := fun b ps h => i.gt b ps (g.gt b ps h)
  ft := i.ft
  tb := fun P hP => tab_same g.h (i.tb P hP)
  vals := fun j d h => let ⟨v, a, b⟩ := i.vals j d h; ⟨v, a, Rv.mono g.g _ _ b⟩
  evs := fun j e h => let ⟨z, a, b, c⟩ := i.evs j e h; ⟨z, a, b, c.mono g.g⟩
  owns := fun j ds h => by
    obtain ⟨a, xs, h1, h2, h3, h4, h5⟩ := i.owns j ds h
    refine ⟨a, xs, h1, g.h _ _ h2, h3.mono g.g, ?_, h5⟩
    cases q : G' a with
    | none => rfl
    | some u =>
      rcases g.old a u q with z | z
      · rw [h4] at z; cases z
      · rw [h2] at z; cases z
  sep := i.sep
  ios := i.ios

/-! ### names and constants -/
def dC (d : PyData) : M PyData := .ret d
/-- the keys of a dict that can be a value: tuples without texts, or none -/
def frzK : List (PyData × PyData) → Bool
  | [] => true
  | (k, _) :: r => (match keyN k with | some k => noTx k | none => false) && frzK r
def flatK : List (PyData × PyData) → Bool
  | [] => true
  | (k, _) :: r => (keyD k).isSome && flatK r
/-- a dict as a value: text keys are let where they are no parts of tuples -/
def frzD (kvs : List (PyData × PyData)) : Option PyData := if flatK kvs || frzK kvs then some (.dict kvs) else none
def dVar (i : Nat) : M PyData := fun r => match r[i]? with
  | some (.v d) => .ok d r
  | some (.l ds) => .ok (.list ds) (r.set i (.v (.list ds)))
  | some (.x (.d kvs)) => match frzD kvs with
    | some d => .ok d (r.set i (.v d))
    | none => .st
  | _ => .st
section
variable {K : PySem.W.Frag} {TG : TGx} {B : List (Nat × Addr)} {F G0 G H : Hp} {r : List Sl} {s : L2.St}
theorem own_v {r : List Sl} {i j : Nat} {d : PyData} {ds : Ow} (h : (r.set i (.v d))[j]?.bind Sl.own = some ds) : i ≠ j ∧ r[j]?.bind Sl.own = some ds := by
  by_cases e : i = j
  · subst e
    rw [List.getElem?_set_self'] at h
    cases q : r[i]? with
    | none => rw [q] at h; simp at h
    | some x => rw [q] at h; simp [Sl.own] at h
  · rw [List.getElem?_set_ne e] at h
    exact ⟨e, h⟩
/-- an own thing is changed no more -/
theorem SR.freezeO (i : SR K TG B F G0 G H r s) {j : Nat} {y : Sl} {w : Ow} {d : PyData} {a : Addr} {o : HO} (h : r[j]? = some y) (ho : y.own = some w) (hy : y.isIo = false) (hs : s[j]? = some (some (V.ref a))) (hH : H a = some o) (ht : ∀ ps, o ≠ .tbl ps)
    (rv : Rv K (upd G a o) d (.ref a)) : Same G (upd G a o) ∧ SR K TG B F G0 (upd G a o) H (r.set j (.v d)) s := by
  have hq : r[j]?.bind Sl.own = some w := by rw [h]; exact ho
  obtain ⟨a', o', h1, h2, h3, h4, h5⟩ := i.owns j w hq
  rw [hs] at h1
  cases h1
  rw [hH] at h2
  cases h2
  have sg : Same G (upd G a o) := same_new h4
  have gh : Same (upd G a o) H := fun b u q => by
    by_cases z : b = a
    · subst z; rw [upd_same] at q; cases q; exact hH
    · rw [upd_ne z] at q; exact i.gh _ _ q
  have hj : j < r.length := (List.getElem?_eq_some_iff.mp h).1
  refine ⟨sg, by rw [List.length_set]; exact i.len, gh, i.fh, i.g0.trans sg, fun b u q => ?_, fun b ps q => ?_, i.ft, i.tb, fun k d q => ?_, fun k es q => ?_, fun k l b es es' n q1 q2 => i.sep k l b es es' n (own_v q1).2 (own_v q2).2, fun p hp => ?_, fun k e q => ?_⟩
  · by_cases z : b = a
    · subst z; exact .inl h5
    · rw [upd_ne z] at q; exact i.fg b u q
  · by_cases z : b = a
    · subst z; rw [upd_same] at q; exact ht ps (Option.some.inj q)
    · rw [upd_ne z] at q; exact i.gt b ps q
  · by_cases e : j = k
    · subst e
      rw [List.getElem?_set_self hj] at q
      cases q
      exact ⟨_, hs, rv⟩
    · rw [List.getElem?_set_ne e] at q
      obtain ⟨v, a1, a2⟩ := i.vals k d q
      exact ⟨v, a1, Rv.mono sg _ _ a2⟩
  · obtain ⟨n, q⟩ := own_v q
    obtain ⟨a', xs', k1, k2, k3, k4, k5⟩ := i.owns k es q
    refine ⟨a', xs', k1, k2, k3.mono sg, ?_, k5⟩
    rw [upd_ne fun e => i.sep j k a w es n hq q hs (by rw [← e]; exact k1)]
    exact k4
  · obtain ⟨⟨y', e1, e3⟩, e2⟩ := i.ios p hp
    refine ⟨⟨y', ?_, e3⟩, e2⟩
    by_cases e : j = p.1
    · rw [← e, h] at e1; cases e1; rw [hy] at e3; cases e3
    · rw [List.getElem?_set_ne e]; exact e1
  · by_cases z : j = k
    · subst z; rw [List.getElem?_set_self hj] at q; cases q
    · rw [List.getElem?_set_ne z] at q
      obtain ⟨z, e1, e2, e3⟩ := i.evs k e q
      exact ⟨z, e1, e2, e3.mono sg⟩
/-- a list is changed no more -/
theorem SR.freeze (i : SR K TG B F G0 G H r s) {j : Nat} {ds : List PyData} (h : r[j]? = some (.l ds)) : ∃ a xs, s[j]? = some (some (V.ref a)) ∧ Same G (upd G a (.lst xs)) ∧ Rv K (upd G a (.lst xs)) (.list ds) (.ref a) ∧
    SR K TG B F G0 (upd G a (.lst xs)) H (r.set j (.v (.list ds))) s := by
  obtain ⟨a, o, h1, h2, ⟨xs, rfl, h3⟩, h4, h5⟩ := i.owns j (.l ds) (by rw [h]; rfl)
  have rv : Rv K (upd G a (.lst xs)) (.list ds) (.ref a) := ⟨a, xs, rfl, upd_same, RvA.mono (same_new h4) _ _ h3⟩
  obtain ⟨sg, z⟩ := i.freezeO h rfl rfl h1 h2 (fun ps q => by cases q) rv
  exact ⟨a, xs, h1, sg, rv, z⟩
theorem frzK_noTx {G : Hp} : ∀ {kvs : List (PyData × PyData)} {xs : List (NestedKey × Addr × Value)}, frzK kvs = true → RvN K G kvs xs → ∀ x ∈ xs, noTx x.1 = true
  | [], _, _, h, x, hx => by cases h; cases hx
  | (k, d) :: r, _, hf, ⟨y, ys, h1, h2, h3⟩, x, hx => by
    subst h1
    have hf : ((match keyN k with | some k => noTx k | none => false) && frzK r) = true := hf
    rw [Bool.and_eq_true] at hf
    obtain ⟨k1, _⟩ := h2
    rcases List.mem_cons.mp hx with e | hx
    · subst e; rw [k1] at hf; exact hf.1
    · exact frzK_noTx hf.2 h3 x hx
theorem RvN.flat {G : Hp} : ∀ {kvs : List (PyData × PyData)} {xs : List (NestedKey × Addr × Value)}, flatK kvs = true → RvN K G kvs xs → kvs = []
  | [], _, _, _ => rfl
  | (k, d) :: r, _, hf, ⟨y, ys, h1, h2, h3⟩ => by
    have hf : ((keyD k).isSome && flatK r) = true := hf
    rw [Bool.and_eq_true] at hf
    obtain ⟨_, _, k3, _⟩ := h2
    cases k <;> first | exact absurd hf.1 Bool.false_ne_true | exact absurd k3 Bool.false_ne_true
theorem rawN_hs {hs : NestedKey → Int} {a : Addr} {xs : List (NestedKey × Addr × Value)} (h : ∀ x ∈ xs, hs x.1 = nhash x.1) : rawN hs a xs = rawN nhash a xs := by
  unfold rawN
  have e : (xs.map fun x => (⟨hs x.1, .ref x.2.1, x.2.2⟩ : DictEntry)) = xs.map fun x => (⟨nhash x.1, .ref x.2.1, x.2.2⟩ : DictEntry) := List.map_congr_left fun x hx => by rw [h x hx]
  rw [e]
theorem SR.freezeD (i : SR K TG B F G0 G H r s) {j : Nat} {kvs : List (PyData × PyData)} {d : PyData} (h : r[j]? = some (.x (.d kvs))) (hd : frzD kvs = some d) : ∃ a o, s[j]? = some (some (V.ref a)) ∧ Same G (upd G a o) ∧ Rv K (upd G a o) d (.ref a) ∧
    SR K TG B F G0 (upd G a o) H (r.set j (.v d)) s := by
  obtain ⟨a, o, h1, h2, h3', h4, h5⟩ := i.owns j (.x (.d kvs)) (by rw [h]; rfl)
  have h3 : DcO TG.hs K G kvs a o := h3'
  clear h3'
  have sg : Same G (upd G a o) := same_new h4
  unfold frzD at hd
  split at hd
  · rename_i hc
    cases hd
    have rv : Rv K (upd G a o) (.dict kvs) (.ref a) := by
      rcases h3 with ⟨ks, rfl, h3⟩ | ⟨xs, rfl, h3⟩
      · exact .inr (.inl ⟨a, ks, rfl, upd_same, RvD.mono sg _ _ h3⟩)
      · obtain ⟨h0, h3⟩ := h3
        have hn : ∀ x ∈ xs, noTx x.1 = true := by
          rw [Bool.or_eq_true] at hc
          rcases hc with hc | hc
          · have e := RvN.flat hc h3
            subst e
            cases h3
            exact fun x hx => by cases hx
          · exact frzK_noTx hc h3
        exact .inr (.inr (.inl ⟨a, xs, rfl, by rw [upd_same, rawN_hs fun x hx => TG.ok _ (hn x hx)], h0, hn, RvN.mono sg _ _ h3⟩))
    obtain ⟨sg, z⟩ := i.freezeO h rfl rfl h1 h2 h3.notTbl rv
    exact ⟨a, o, h1, sg, rv, z⟩
  · cases hd
end
section
variable {X : Cx} {TG : TGx} {W : WX}
theorem de_var {i : Nat} {x : Str} {pos : Pos} (h : PE X (.Name x pos) (tVar i)) : DE X TG W (.Name x pos) (dVar i) := by
  refine PE_imp h fun s H Q hq => ?_
  obtain ⟨B, F, G0, G, r, ir, p⟩ := hq
  unfold dVar at p
  split at p
  · rename_i d e
    obtain ⟨v, h1, h2⟩ := ir.vals i d e
    exact ⟨v, h1, p G H v (.refl _) ir h2⟩
  · rename_i ds e
    obtain ⟨a, xs, h1, h2, h3, h4⟩ := ir.freeze e
    exact ⟨_, h1, p _ H _ h2 h4 h3⟩
  · rename_i kvs e
    cases hd : frzD kvs with
    | none => rw [hd] at p; exact p.elim
    | some d =>
      rw [hd] at p
      obtain ⟨a, o, h1, h2, h3, h4⟩ := ir.freezeD e hd
      exact ⟨_, h1, p _ H _ h2 h4 h3⟩
  · exact p.elim
theorem rd_ret {α β : Type} {K : PySem.W.Frag} {R : RL α β} {a : α} {b : β} {s : L2.St} {H : Hp} {Q : β → Hp → Prop} (h : rd K TG W R (M.ret a) s H Q) (hr : ∀ G, R G a b) : Q b H := by
  obtain ⟨B, F, G0, G, r, i, p⟩ := h
  exact p G H b (.refl _) i (hr G)
theorem de_int {i : Int} {j : Nat} {pos : Pos} : DE X TG W (.Constant (.int i) j pos) (dC (.int i)) := PE_imp pe_int fun s H Q h => rd_ret (b := V.int i) h fun _ => rfl
theorem de_bl {b : Bool} {j : Nat} {pos : Pos} : DE X TG W (.Constant (.bool b) j pos) (dC (.bool b)) := PE_imp pe_bl fun s H Q h => rd_ret (b := V.bl b) h fun _ => rfl
theorem de_non {j : Nat} {pos : Pos} : DE X TG W (.Constant .none j pos) (dC .none) := PE_imp pe_non fun s H Q h => rd_ret (b := V.non) h fun _ => rfl
theorem de_str {x : Str} {j : Nat} {pos : Pos} : DE X TG W (.Constant (.str x) j pos) (dC (.str x)) := PE_imp pe_str fun s H Q h => rd_ret (b := V.str x) h fun _ => rfl
/-- a constant of the module -/
theorem de_glob {x : Str} {v : V} {u : Value} {d : PyData} {pos : Pos} (hg : Gl X x) (hm : X.mg x = some u) (r : RelV v u) (hv : Rv X.K (fun _ => none) d v) (hd : (x == ("__debug__" : Str)) = false := by decide) : DE X TG W (.Name x pos) (dC d) :=
  PE_imp (pe_glob hg hm r hd) fun s H Q h => rd_ret (b := v) h fun G => Rv.mono (fun _ _ z => by cases z) _ _ hv
end

end TW

end
section
namespace TW
open PySem PySem.Spec PyProof.Rows L2

/-! ### tests -/
def asB : PyData → M Bool
  | .bool b => .ret b
  | _ => .st
def truthy? : PyData → Option Bool
  | .none => some false
  | .bool b => some b
  | .int i => some (i != 0)
  | .str x => if x.length ≤ sizeLine then some ((x.length : Int) != 0) else none
  | .list ds => some (!ds.isEmpty)
  | .tuple ds => some (!ds.isEmpty)
  | .dict _ => none
def dTr (d : M PyData) : M Bool := d.bind fun x => .opt (truthy? x)
section
variable {K : PySem.W.Frag} {TG : TGx} {W : WX} {s : L2.St} {H : Hp}
theorem rd_asB {d : M PyData} {Q : Bool → Hp → Prop} (h : rd K TG W RB (d.bind asB) s H Q) : rd K TG W (RE K) d s H (fun x H1 => ∃ k, x = .bl k ∧ Q k H1) := by
  obtain ⟨B, F, G0, G, r, i, p⟩ := h
  refine ⟨B, F, G0, G, r, i, post_imp (fun x H1 q => ?_) _ (post_bind (R1 := RE K) _ p)⟩
  obtain ⟨G1, r1, a, e, i1, v1, p1⟩ := q
  cases a with
  | bool b => exact ⟨b, v1, p1 G1 H1 b (.refl _) i1 rfl⟩
  | none => exact p1.elim
  | int _ => exact p1.elim
  | str _ => exact p1.elim
  | list _ => exact p1.elim
  | tuple _ => exact p1.elim
  | dict _ => exact p1.elim
theorem isEmpty_rva {G : Hp} : ∀ {ds : List PyData} {xs : List V}, RvA K G ds xs → xs.isEmpty = ds.isEmpty
  | [], _, h => by cases h; rfl
  | d :: ds, _, ⟨x, r, h, _, _⟩ => by subst h; rfl
theorem tru_of {G : Hp} {x : V} {d : PyData} {k : Bool} (g : Same G H) (h : Rv K G d x) (e : truthy? d = some k) : TruV K x H k := by
  cases d with
  | none => cases h; cases e; rfl
  | bool b => cases h; cases e; rfl
  | int i => cases h; cases e; rfl
  | str z =>
    cases h
    have e : (if z.length ≤ sizeLine then some ((z.length : Int) != 0) else none) = some k := e
    split at e
    · rename_i hz; cases e; exact ⟨hz, rfl⟩
    · cases e
  | list ds =>
    obtain ⟨a, xs, h1, h2, h3⟩ := h
    subst h1; cases e
    exact .inl ⟨xs, same_l g h2, by rw [isEmpty_rva h3]⟩
  | tuple ds =>
    obtain ⟨a, xs, h1, h2, h3⟩ := h
    subst h1; cases e
    exact .inr (.inl ⟨xs, same_t g h2, by rw [isEmpty_rva h3]⟩)
  | dict _ => cases e
theorem rd_tru {d : M PyData} {Q : Bool → Hp → Prop} (h : rd K TG W RB (dTr d) s H Q) : rd K TG W (RE K) d s H (fun x H1 => ∃ k, TruV K x H1 k ∧ Q k H1) := by
  obtain ⟨B, F, G0, G, r, i, p⟩ := h
  refine ⟨B, F, G0, G, r, i, post_imp (fun x H1 q => ?_) _ (post_bind (R1 := RE K) _ p)⟩
  obtain ⟨G1, r1, a, e, i1, v1, p1⟩ := q
  cases hk : truthy? a with
  | none => rw [hk] at p1; exact p1.elim
  | some k => rw [hk] at p1; exact ⟨k, tru_of i1.gh v1 hk, p1 G1 H1 k (.refl _) i1 rfl⟩
end
section
variable {X : Cx} {TG : TGx} {W : WX} {a b c e : Expr} {da db dc : M PyData} {ta tb tc : M Bool} {pos : Pos} {rest : List Expr}
/-- a bool's expression as a test -/
theorem dt_val {d : M PyData} (h : DE X TG W e d) (he : ∀ whole, isTrue e X.env whole = (do let v ← whole; standAt e.pos; holding [v] (truthy v)) := by intro _; rfl) : DT X TG W e (d.bind asB) :=
  PT_imp (pt_val h he) fun s H Q q => rd_asB q
/-- any expression as a test -/
theorem dt_tr {d : M PyData} (h : DE X TG W e d) (he : ∀ whole, isTrue e X.env whole = (do let v ← whole; standAt e.pos; holding [v] (truthy v)) := by intro _; rfl) : DT X TG W e (dTr d) :=
  PT_imp (pt_truth h he) fun s H Q q => rd_tru q
def dtNot (t : M Bool) : M Bool := t.bind fun k => .ret (!k)
def dtAnd (t u : M Bool) : M Bool := t.bind fun k => if k then u else .ret false
def dtOr (t u : M Bool) : M Bool := t.bind fun k => if k then .ret true else u
theorem dt_not (h : DT X TG W a ta) : DT X TG W (.UnaryOp .Not a pos) (dtNot ta) := PT_imp (pt_not h) fun s H Q q => by
  obtain ⟨B, F, G0, G, r, i, p⟩ := q
  refine ⟨B, F, G0, G, r, i, post_imp (fun x H1 q => ?_) _ (post_bind (R1 := RB) _ p)⟩
  obtain ⟨G1, r1, k, e, i1, v1, p1⟩ := q
  have v1 : k = x := v1
  subst v1
  exact p1 G1 H1 _ (.refl _) i1 rfl
/-- and, or as tests -/
def DW (X : Cx) (TG : TGx) (W : WX) (e : Expr) (d : M Bool) : Prop := PW X e (rd X.K TG W RB d)
theorem DW.dt (h : DW X TG W a ta) : DT X TG W a ta := PW.pt h
theorem PW_imp {X : Cx} {e : Expr} {t t' : TT} (h : PW X e t) (w : ∀ s H Q, t' s H Q → t s H Q) : PW X e t' := ⟨fun wh pins s σ H Q I q => h.run wh pins s σ H Q I (w _ _ _ q)⟩
theorem dw_and1 (h : DT X TG W a ta) : DW X TG W (.BoolOp .And [a] pos) ta := pw_and1 h
theorem dw_or1 (h : DT X TG W a ta) : DW X TG W (.BoolOp .Or [a] pos) ta := pw_or1 h
theorem dw_and (h : DT X TG W a ta) (h2 : DW X TG W (.BoolOp .And (b :: rest) pos) tb) : DW X TG W (.BoolOp .And (a :: b :: rest) pos) (dtAnd ta tb) := PW_imp (pw_and h h2) fun s H Q q => by
  obtain ⟨B, F, G0, G, r, i, p⟩ := q
  refine ⟨B, F, G0, G, r, i, post_imp (fun x H1 q => ?_) _ (post_bind (R1 := RB) _ p)⟩
  obtain ⟨G1, r1, k, e, i1, v1, p1⟩ := q
  have v1 : k = x := v1
  subst v1
  cases k with
  | true => exact ⟨B, F, G0, G1, r1, i1, p1⟩
  | false => exact p1 G1 H1 _ (.refl _) i1 rfl
theorem dw_or (h : DT X TG W a ta) (h2 : DW X TG W (.BoolOp .Or (b :: rest) pos) tb) : DW X TG W (.BoolOp .Or (a :: b :: rest) pos) (dtOr ta tb) := PW_imp (pw_or h h2) fun s H Q q => by
  obtain ⟨B, F, G0, G, r, i, p⟩ := q
  refine ⟨B, F, G0, G, r, i, post_imp (fun x H1 q => ?_) _ (post_bind (R1 := RB) _ p)⟩
  obtain ⟨G1, r1, k, e, i1, v1, p1⟩ := q
  have v1 : k = x := v1
  subst v1
  cases k with
  | true => exact p1 G1 H1 _ (.refl _) i1 rfl
  | false => exact ⟨B, F, G0, G1, r1, i1, p1⟩
/-! ### and, or, not, if as values: the first ones bools -/
def dAnd (x y : M PyData) : M PyData := (x.bind asB).bind fun k => if k then y else .ret (.bool false)
def dOr (x y : M PyData) : M PyData := (x.bind asB).bind fun k => if k then .ret (.bool true) else y
def dNot (x : M PyData) : M PyData := (x.bind asB).bind fun k => .ret (.bool (!k))
def dIf (t : M Bool) (x y : M PyData) : M PyData := t.bind fun k => if k then x else y
theorem rd_asB2 {γ δ : Type} {R2 : RL γ δ} {K : PySem.W.Frag} {s : L2.St} {H : Hp} {d : M PyData} {k : Bool → M γ} {Q : δ → Hp → Prop} (h : rd K TG W R2 ((d.bind asB).bind k) s H Q) :
    rd K TG W (RE K) d s H (fun x H1 => ∃ b, x = .bl b ∧ rd K TG W R2 (k b) s H1 Q) := by
  refine rd_asB (Q := fun b H1 => rd K TG W R2 (k b) s H1 Q) ?_
  obtain ⟨B, F, G0, G, r, i, p⟩ := h
  refine ⟨B, F, G0, G, r, i, post_imp (fun x H1 q => ?_) _ (post_bind (R1 := RB) _ p)⟩
  obtain ⟨G1, r1, k, e, i1, v1, p1⟩ := q
  have v1 : k = x := v1
  subst v1
  exact ⟨B, F, G0, G1, r1, i1, p1⟩
theorem de_one {op} (h : DE X TG W a da) : DE X TG W (.BoolOp op [a] pos) da := pe_one h
theorem de_and (h : DE X TG W a da) (h2 : DE X TG W (.BoolOp .And (b :: rest) pos) db) : DE X TG W (.BoolOp .And (a :: b :: rest) pos) (dAnd da db) := PE_imp (pe_and h h2) fun s H Q q => by
  obtain ⟨B, F, G0, G, r, i, p⟩ := rd_asB2 q
  refine ⟨B, F, G0, G, r, i, post_imp (fun x H1 q => ?_) _ p⟩
  obtain ⟨k, rfl, z⟩ := q
  refine ⟨k, rfl, ?_⟩
  cases k with
  | true => exact z
  | false => exact rd_ret (b := V.bl false) z fun _ => rfl
theorem de_or (h : DE X TG W a da) (h2 : DE X TG W (.BoolOp .Or (b :: rest) pos) db) : DE X TG W (.BoolOp .Or (a :: b :: rest) pos) (dOr da db) := PE_imp (pe_or h h2) fun s H Q q => by
  obtain ⟨B, F, G0, G, r, i, p⟩ := rd_asB2 q
  refine ⟨B, F, G0, G, r, i, post_imp (fun x H1 q => ?_) _ p⟩
  obtain ⟨k, rfl, z⟩ := q
  refine ⟨k, rfl, ?_⟩
  cases k with
  | true => exact rd_ret (b := V.bl true) z fun _ => rfl
  | false => exact z
theorem de_not (h : DE X TG W a da) : DE X TG W (.UnaryOp .Not a pos) (dNot da) := PE_imp (pe_not h) fun s H Q q => by
  obtain ⟨B, F, G0, G, r, i, p⟩ := rd_asB2 q
  refine ⟨B, F, G0, G, r, i, post_imp (fun x H1 q => ?_) _ p⟩
  obtain ⟨k, rfl, z⟩ := q
  exact ⟨k, rfl, rd_ret (b := V.bl (!k)) z fun _ => rfl⟩
theorem rd_test {γ δ : Type} {R2 : RL γ δ} {K : PySem.W.Frag} {s : L2.St} {H : Hp} {t : M Bool} {k : Bool → M γ} {Q : δ → Hp → Prop} (h : rd K TG W R2 (t.bind k) s H Q) : rd K TG W RB t s H (fun b H1 => rd K TG W R2 (k b) s H1 Q) := by
  obtain ⟨B, F, G0, G, r, i, p⟩ := h
  refine ⟨B, F, G0, G, r, i, post_imp (fun x H1 q => ?_) _ (post_bind (R1 := RB) _ p)⟩
  obtain ⟨G1, r1, k, e, i1, v1, p1⟩ := q
  have v1 : k = x := v1
  subst v1
  exact ⟨B, F, G0, G1, r1, i1, p1⟩
theorem de_if (hc : DT X TG W c tc) (ha : DE X TG W a da) (hb : DE X TG W b db) : DE X TG W (.IfExp c a b pos) (dIf tc da db) := PE_imp (pe_ifExp hc ha hb) fun s H Q q => by
  obtain ⟨B, F, G0, G, r, i, p⟩ := rd_test q
  refine ⟨B, F, G0, G, r, i, post_imp (fun x H1 q => ?_) _ p⟩
  cases x with
  | true => exact q
  | false => exact q
end

/-! ### argument lists and displays -/
inductive Arg where
  | v (d : PyData)
  | io (i : Nat)
def RArg (K : PySem.W.Frag) (s : L2.St) (G : Hp) : List Arg → List V → Prop
  | [], xs => xs = []
  | .v d :: as, xs => ∃ x r, xs = x :: r ∧ Rv K G d x ∧ RArg K s G as r
  | .io i :: as, xs => ∃ x r, xs = x :: r ∧ s[i]? = some (some x) ∧ RArg K s G as r
theorem RArg.mono {K : PySem.W.Frag} {s : L2.St} {G G' : Hp} (e : Same G G') : ∀ {as : List Arg} {xs : List V}, RArg K s G as xs → RArg K s G' as xs
  | [], _, h => h
  | .v d :: as, _, ⟨x, r, h1, h2, h3⟩ => ⟨x, r, h1, Rv.mono e _ _ h2, RArg.mono e h3⟩
  | .io i :: as, _, ⟨x, r, h1, h2, h3⟩ => ⟨x, r, h1, h2, RArg.mono e h3⟩
def DA (X : Cx) (TG : TGx) (W : WX) (es : List Expr) (d : M (List Arg)) : Prop := PA X es (fun s H Q => rd X.K TG W (RArg X.K s) d s H Q)
def aNil : M (List Arg) := .ret []
def aV (d : M PyData) (r : M (List Arg)) : M (List Arg) := d.bind fun x => r.bind fun xs => .ret (.v x :: xs)
def aIo (i : Nat) (r : M (List Arg)) : M (List Arg) := fun z => match z[i]?.bind Sl.own with
  | some _ => (r.bind fun xs => .ret (.io i :: xs)) z
  | none => .st
section
variable {X : Cx} {TG : TGx} {W : WX} {e : Expr} {es : List Expr} {d : M PyData} {r : M (List Arg)} {pos : Pos}
theorem da_nil : DA X TG W [] aNil := PA_imp pa_nil fun s H Q h => rd_ret (b := ([] : List V)) (R := RArg X.K s) h fun _ => rfl
theorem da_cons (he : DE X TG W e d) (hr : DA X TG W es r) (hs : starEach (e :: es) X.env = (false, eval e X.env) :: starEach es X.env := by rfl) : DA X TG W (e :: es) (aV d r) := PA_imp (pa_cons he hr hs) fun s H Q h => by
  obtain ⟨B, F, G0, G, z, i, p⟩ := rd_bind (R1 := RE X.K) h
  refine ⟨B, F, G0, G, z, i, post_imp (fun x H1 q => ?_) _ p⟩
  obtain ⟨B, F, G0, G1, r1, a, i1, v1, p1⟩ := q
  refine ⟨B, F, G0, G1, r1, i1, post_imp (fun xs H2 q => ?_) _ (post_bind (R1 := RArg X.K s) _ p1)⟩
  obtain ⟨G2, r2, as, e2, i2, v2, p2⟩ := q
  exact p2 G2 H2 _ (.refl _) i2 ⟨x, xs, rfl, Rv.mono e2 _ _ v1, v2⟩
theorem da_io {i : Nat} {x : Str} (he : PE X (.Name x pos) (tVar i)) (hr : DA X TG W es r) (hs : starEach (.Name x pos :: es) X.env = (false, eval (.Name x pos) X.env) :: starEach es X.env := by rfl) : DA X TG W (.Name x pos :: es) (aIo i r) :=
  PA_imp (pa_cons he hr hs) fun s H Q h => by
    obtain ⟨B, F, G0, G, z, ir, p⟩ := h
    unfold aIo at p
    cases ho : z[i]?.bind Sl.own with
    | none => rw [ho] at p; exact p.elim
    | some ds =>
      rw [ho] at p
      obtain ⟨a, xs, h1, _⟩ := ir.owns i ds ho
      refine ⟨_, h1, B, F, G0, G, z, ir, post_imp (fun ys H2 q => ?_) _ (post_bind (R1 := RArg X.K s) _ p)⟩
      obtain ⟨G2, r2, as, e2, i2, v2, p2⟩ := q
      exact p2 G2 H2 _ (.refl _) i2 ⟨_, ys, rfl, h1, v2⟩
/-- all arguments values -/
def allV : List Arg → Option (List PyData)
  | [] => some []
  | .v d :: as => (allV as).map (d :: ·)
  | .io _ :: _ => none
theorem allV_rv {K : PySem.W.Frag} {s : L2.St} {G : Hp} : ∀ {as : List Arg} {ds : List PyData} {xs : List V}, allV as = some ds → RArg K s G as xs → RvA K G ds xs
  | [], _, _, h, q => by cases h; exact q
  | .v d :: as, ds, _, h, ⟨x, r, h1, h2, h3⟩ => by
    unfold allV at h
    cases hq : allV as with
    | none => rw [hq] at h; cases h
    | some es => rw [hq] at h; cases h; exact ⟨x, r, h1, h2, allV_rv hq h3⟩
  | .io _ :: _, _, _, h, _ => by cases h
/-- what is made of plain arguments -/
def aBind {α : Type} (r : M (List Arg)) (k : List PyData → M α) : M α := r.bind fun as => match allV as with
  | some ds => k ds
  | none => .st
theorem rd_args {γ δ : Type} {R2 : RL γ δ} {s : L2.St} {H : Hp} {k : List PyData → M γ} {Q : δ → Hp → Prop} (h : rd X.K TG W R2 (aBind r k) s H Q) :
    rd X.K TG W (RArg X.K s) r s H (fun xs H1 => ∃ B F G0 G1 r1 ds, SR X.K TG B F G0 G1 H1 r1 s ∧ RvA X.K G1 ds xs ∧ post X.K TG W R2 B F G0 G1 s Q (k ds r1)) := by
  obtain ⟨B, F, G0, G, z, i, p⟩ := rd_bind (R1 := RArg X.K s) h
  refine ⟨B, F, G0, G, z, i, post_imp (fun x H1 q => ?_) _ p⟩
  obtain ⟨B, F, G0, G1, r1, as, i1, v1, p1⟩ := q
  cases hq : allV as with
  | none => rw [hq] at p1; exact p1.elim
  | some ds => rw [hq] at p1; exact ⟨B, F, G0, G1, r1, ds, i1, allV_rv hq v1, p1⟩
def dTup (r : M (List Arg)) : M PyData := aBind r fun ds => if ds.length ≤ sizeLine then .ret (.tuple ds) else .st
theorem de_tup {k : Nat} (h : DA X TG W es r) : DE X TG W (.Tuple es k pos) (dTup r) := PE_imp (pe_tup h) fun s H Q q => by
  obtain ⟨B, F, G0, G, z, i, p⟩ := rd_args q
  refine ⟨B, F, G0, G, z, i, post_imp (fun xs H1 q => ?_) _ p⟩
  obtain ⟨B, F, G0, G1, r1, ds, i1, v1, p1⟩ := q
  split at p1
  · rename_i hz
    refine ⟨by rw [v1.len]; exact hz, fun a ha => ?_⟩
    have g := Grow.new i1.gh ha (.tup xs) (fun _ z => by cases z)
    exact p1 _ _ _ g.g (i1.grow g) ⟨a, xs, rfl, .inl (.inl upd_same), RvA.mono g.g _ _ v1⟩
  · exact p1.elim
end

/-! ### a new list -/
section
variable (K : PySem.W.Frag) (TG : TGx) (W : WX)
/-- the list at a is new: no one else has it -/
structure Free (B : List (Nat × Addr)) (F G H : Hp) (r : List Sl) (s : L2.St) (a : Addr) (ds : List PyData) : Prop where
  ex : ∃ xs, H a = some (HO.lst xs) ∧ RvA K G ds xs
  g : G a = none
  f : F a = none
  sl : ∀ (j : Nat) (es : Ow), r[j]?.bind Sl.own = some es → s[j]? ≠ some (some (V.ref a))
/-- the own object at a is new -/
structure FreeO (B : List (Nat × Addr)) (F G H : Hp) (r : List Sl) (s : L2.St) (a : Addr) (w : Ow) : Prop where
  ex : ∃ o, H a = some o ∧ OwR TG K G a w o
  g : G a = none
  f : F a = none
  sl : ∀ (j : Nat) (es : Ow), r[j]?.bind Sl.own = some es → s[j]? ≠ some (some (V.ref a))
def postL (B : List (Nat × Addr)) (F G0 G : Hp) (s : L2.St) (Q : V → Hp → Prop) : Res (List PyData) → Prop
  | .ok ds r => ∀ G' H' a, Same G G' → SR K TG B F G0 G' H' r s → Free K B F G' H' r s a ds → Q (.ref a) H'
  | .ex e r => ∀ G' H' c dx, Same G G' → SR K TG B F G0 G' H' r s → ExR K G' e c dx → W c dx s H'
  | .st => False
def rdL (d : M (List PyData)) : TE := fun s H Q => ∃ B F G0 G r, SR K TG B F G0 G H r s ∧ postL K TG W B F G0 G s Q (d r)
end
def DL (X : Cx) (TG : TGx) (W : WX) (e : Expr) (d : M (List PyData)) : Prop := PE X e (rdL X.K TG W d)
section
variable {X : Cx} {TG : TGx} {W : WX} {e : Expr} {es : List Expr} {d : M (List PyData)} {r : M (List Arg)} {pos : Pos}
theorem postL_imp {K : PySem.W.Frag} {B : List (Nat × Addr)} {F G0 G : Hp} {s : L2.St} {Q Q' : V → Hp → Prop} (q : ∀ b H, Q b H → Q' b H) : ∀ (x : Res (List PyData)), postL K TG W B F G0 G s Q x → postL K TG W B F G0 G s Q' x
  | .ok a r, h => fun G' H' b e' i z => q _ _ (h G' H' b e' i z)
  | .ex x r, h => h
  | .st, h => h
theorem FreeO.keepO {K : PySem.W.Frag} {B : List (Nat × Addr)} {F G0 G H : Hp} {z : List Sl} {s : L2.St} {a : Addr} {o : HO} {w : Ow} (i : SR K TG B F G0 G H z s) (f : FreeO K TG B F G H z s a w) (h1 : H a = some o) (ht : ∀ ps, o ≠ .tbl ps) :
    Same G (upd G a o) ∧ SR K TG B F G0 (upd G a o) H z s := by
  have sg : Same G (upd G a o) := same_new f.g
  refine ⟨sg, i.len, fun b u q => ?_, i.fh, i.g0.trans sg, fun b u q => ?_, fun b ps q => ?_, i.ft, i.tb, fun k d q => ?_, fun k es q => ?_, i.sep, i.ios, fun k e q => let ⟨z, e1, e2, e3⟩ := i.evs k e q; ⟨z, e1, e2, e3.mono sg⟩⟩
  · by_cases w : b = a
    · subst w; rw [upd_same] at q; cases q; exact h1
    · rw [upd_ne w] at q; exact i.gh _ _ q
  · by_cases w : b = a
    · subst w; exact .inl f.f
    · rw [upd_ne w] at q; exact i.fg b u q
  · by_cases w : b = a
    · subst w; rw [upd_same] at q; exact ht ps (Option.some.inj q)
    · rw [upd_ne w] at q; exact i.gt b ps q
  · obtain ⟨v, a1, a2⟩ := i.vals k d q
    exact ⟨v, a1, Rv.mono sg _ _ a2⟩
  · obtain ⟨a', xs', k1, k2, k3, k4, k5⟩ := i.owns k es q
    refine ⟨a', xs', k1, k2, k3.mono sg, ?_, k5⟩
    rw [upd_ne fun e => f.sl k es q (by rw [← e]; exact k1)]
    exact k4
theorem Free.o {K : PySem.W.Frag} {B : List (Nat × Addr)} {F G H : Hp} {r : List Sl} {s : L2.St} {TG : TGx} {ds : List PyData} {a : Addr} (f : Free K B F G H r s a ds) : FreeO K TG B F G H r s a (.l ds) :=
  let ⟨xs, h1, h2⟩ := f.ex
  ⟨⟨_, h1, xs, rfl, h2⟩, f.g, f.f, f.sl⟩
theorem Free.keep {K : PySem.W.Frag} {B : List (Nat × Addr)} {F G0 G H : Hp} {z : List Sl} {s : L2.St} {a : Addr} {ds : List PyData} (i : SR K TG B F G0 G H z s) (f : Free K B F G H z s a ds) :
    ∃ G', Same G G' ∧ SR K TG B F G0 G' H z s ∧ Rv K G' (.list ds) (.ref a) := by
  obtain ⟨xs, h1, h2⟩ := f.ex
  obtain ⟨sg, j⟩ := f.o.keepO i h1 (fun ps z => by cases z)
  exact ⟨_, sg, j, ⟨a, xs, rfl, upd_same, RvA.mono sg _ _ h2⟩⟩
theorem dco_rv {hs : NestedKey → Int} (ok : ∀ k, noTx k = true → hs k = nhash k) {K : PySem.W.Frag} {G : Hp} {kvs : List (PyData × PyData)} {a : Addr} {o : HO} {d : PyData} (h : DcO hs K G kvs a o) (hG : G a = some o) (hd : frzD kvs = some d) : Rv K G d (.ref a) := by
  unfold frzD at hd
  split at hd
  · rename_i hc
    cases hd
    rcases h with ⟨ks, rfl, h3⟩ | ⟨xs, rfl, h0, h3⟩
    · exact .inr (.inl ⟨a, ks, rfl, hG, h3⟩)
    · have hn : ∀ x ∈ xs, noTx x.1 = true := by
        rw [Bool.or_eq_true] at hc
        rcases hc with hc | hc
        · have e := RvN.flat hc h3
          subst e
          cases h3
          exact fun x hx => by cases hx
        · exact frzK_noTx hc h3
      exact .inr (.inr (.inl ⟨a, xs, rfl, by rw [hG, rawN_hs fun x hx => ok _ (hn x hx)], h0, hn, h3⟩))
  · cases hd
theorem FreeO.keepD {K : PySem.W.Frag} {B : List (Nat × Addr)} {F G0 G H : Hp} {z : List Sl} {s : L2.St} {a : Addr} {kvs : List (PyData × PyData)} {d : PyData} (i : SR K TG B F G0 G H z s) (f : FreeO K TG B F G H z s a (.x (.d kvs))) (hd : frzD kvs = some d) :
    ∃ G', Same G G' ∧ SR K TG B F G0 G' H z s ∧ Rv K G' d (.ref a) := by
  obtain ⟨o, h1, h2⟩ := f.ex
  have h2 : DcO TG.hs K G kvs a o := h2
  obtain ⟨sg, j⟩ := f.keepO i h1 h2.notTbl
  exact ⟨_, sg, j, dco_rv TG.ok (h2.mono sg) upd_same hd⟩
/-- a new list as a value: it is changed no more -/
def dFz (d : M (List PyData)) : M PyData := d.bind fun ds => .ret (.list ds)
theorem rdL_fz {K : PySem.W.Frag} {s : L2.St} {H : Hp} {Q : VK} (h : rd K TG W (RE K) (dFz d) s H Q) : rdL K TG W d s H Q := by
  obtain ⟨B, F, G0, G, z, i, p⟩ := h
  refine ⟨B, F, G0, G, z, i, ?_⟩
  unfold dFz M.bind at p
  cases hd : d z with
  | ok ds r1 =>
    rw [hd] at p
    intro G' H' a e i' f
    obtain ⟨G2, h3, h4, h5⟩ := f.keep i'
    exact p _ _ _ (e.trans h3) h4 h5
  | ex x r1 => rw [hd] at p; exact p
  | st => rw [hd] at p; exact p
end
end TW

end
section
namespace TW
open PySem PySem.Spec PyProof.Rows L2

/-! ### changes of slots -/
def Sl.put (x : Sl) : Ow → Sl
  | .l ds => if x.isIo then .io ds else .l ds
  | .x y => if x.isIo then .xo y else .x y
section
variable {K : PySem.W.Frag} {TG : TGx} {B : List (Nat × Addr)} {F G0 G H : Hp} {r : List Sl} {s : L2.St}
/-- the heap grows, the values' part as it was -/
theorem grow_out {p : Addr} {o : HO} (e : Same G H) (h : H p = none) : Grow G H G (upd H p o) := ⟨.refl _, same_new h, e.trans (same_new h), fun _ _ q => .inl q, fun _ _ q => q⟩
theorem SR.lt (i : SR K TG B F G0 G H r s) {j : Nat} (h : j < r.length) : j < s.length := by rw [← i.len]; exact h
/-- a name is given a value -/
theorem SR.setv (i : SR K TG B F G0 G H r s) {j : Nat} {d : PyData} {v : V} (hj : j < r.length) (hio : ∀ y, r[j]? = some y → y.isIo = false) (hv : Rv K G d v) : SR K TG B F G0 G H (r.set j (.v d)) (s.set j (some v)) := by
  refine ⟨by rw [List.length_set, List.length_set]; exact i.len, i.gh, i.fh, i.g0, i.fg, i.gt, i.ft, i.tb, fun k e q => ?_, fun k es q => ?_, fun k l a es es' n q1 q2 e1 => ?_, fun p hp => ?_, fun k e q => ?_⟩
  · by_cases e : j = k
    · subst e
      rw [List.getElem?_set_self hj] at q
      cases q
      exact ⟨v, List.getElem?_set_self (i.lt hj), hv⟩
    · rw [List.getElem?_set_ne e] at q ⊢
      exact i.vals k _ q
  · obtain ⟨n, q⟩ := own_v q
    rw [List.getElem?_set_ne n]
    exact i.owns k es q
  · obtain ⟨n1, q1⟩ := own_v q1
    obtain ⟨n2, q2⟩ := own_v q2
    rw [List.getElem?_set_ne n1] at e1
    rw [List.getElem?_set_ne n2]
    exact i.sep k l a es es' n q1 q2 e1
  · obtain ⟨⟨es, e1, e3⟩, e2⟩ := i.ios p hp
    have n : j ≠ p.1 := fun e => by rw [hio es (by rw [e]; exact e1)] at e3; cases e3
    rw [List.getElem?_set_ne n, List.getElem?_set_ne n]
    exact ⟨⟨es, e1, e3⟩, e2⟩
  · by_cases z : j = k
    · subst z; rw [List.getElem?_set_self hj] at q; cases q
    · rw [List.getElem?_set_ne z] at q ⊢
      exact i.evs k e q
theorem own_set {r : List Sl} {i j : Nat} {x : Sl} {ds : Ow} (h : (r.set i x)[j]?.bind Sl.own = some ds) : (i = j ∧ x.own = some ds) ∨ (i ≠ j ∧ r[j]?.bind Sl.own = some ds) := by
  by_cases e : i = j
  · subst e
    rw [List.getElem?_set_self'] at h
    cases q : r[i]? with
    | none => rw [q] at h; simp at h
    | some y => rw [q] at h; exact .inl ⟨rfl, h⟩
  · rw [List.getElem?_set_ne e] at h
    exact .inr ⟨e, h⟩
/-- a name is given a new own thing -/
theorem SR.setO (i : SR K TG B F G0 G H r s) {j : Nat} {x : Sl} {w : Ow} {a : Addr} (hj : j < r.length) (hio : ∀ y, r[j]? = some y → y.isIo = false) (hx : x.own = some w) (hv : ∀ d, x ≠ .v d) (he : ∀ e, x ≠ .ev e) (f : FreeO K TG B F G H r s a w) : SR K TG B F G0 G H (r.set j x) (s.set j (some (.ref a))) := by
  obtain ⟨o, h1, h2⟩ := f.ex
  refine ⟨by rw [List.length_set, List.length_set]; exact i.len, i.gh, i.fh, i.g0, i.fg, i.gt, i.ft, i.tb, fun k e q => ?_, fun k es q => ?_, fun k l b es es' n q1 q2 e1 => ?_, fun p hp => ?_, fun k e q => ?_⟩
  · by_cases e : j = k
    · subst e
      rw [List.getElem?_set_self hj] at q
      exact absurd (Option.some.inj q) (hv _)
    · rw [List.getElem?_set_ne e] at q ⊢
      exact i.vals k _ q
  · rcases own_set q with ⟨e, q'⟩ | ⟨n, q'⟩
    · subst e
      rw [hx] at q'
      cases q'
      exact ⟨a, o, List.getElem?_set_self (i.lt hj), h1, h2, f.g, f.f⟩
    · rw [List.getElem?_set_ne n]
      exact i.owns k es q'
  · rcases own_set q1 with ⟨z, q1'⟩ | ⟨n1, q1'⟩
    · subst z
      rw [List.getElem?_set_self (i.lt hj)] at e1
      have ea : a = b := by
        have z : some (some (V.ref a)) = some (some (V.ref b)) := e1
        cases z; rfl
      subst ea
      rcases own_set q2 with ⟨z, _⟩ | ⟨n2, q2'⟩
      · exact absurd z n
      · rw [List.getElem?_set_ne n2]
        exact f.sl l es' q2'
    · rw [List.getElem?_set_ne n1] at e1
      rcases own_set q2 with ⟨z, q2'⟩ | ⟨n2, q2'⟩
      · subst z
        rw [List.getElem?_set_self (i.lt hj)]
        intro z
        have ea : a = b := by
          have z : some (some (V.ref a)) = some (some (V.ref b)) := z
          cases z; rfl
        subst ea
        exact f.sl k es q1' e1
      · rw [List.getElem?_set_ne n2]
        exact i.sep k l b es es' n q1' q2' e1
  · obtain ⟨⟨es, e1, e3⟩, e2⟩ := i.ios p hp
    have n : j ≠ p.1 := fun e => by rw [hio es (by rw [e]; exact e1)] at e3; cases e3
    rw [List.getElem?_set_ne n, List.getElem?_set_ne n]
    exact ⟨⟨es, e1, e3⟩, e2⟩
  · by_cases z : j = k
    · subst z; rw [List.getElem?_set_self hj] at q; exact absurd (Option.some.inj q) (he _)
    · rw [List.getElem?_set_ne z] at q ⊢
      exact i.evs k e q
/-- a name is given a new list -/
theorem SR.setl (i : SR K TG B F G0 G H r s) {j : Nat} {ds : List PyData} {a : Addr} (hj : j < r.length) (hio : ∀ y, r[j]? = some y → y.isIo = false) (f : Free K B F G H r s a ds) : SR K TG B F G0 G H (r.set j (.l ds)) (s.set j (some (.ref a))) :=
  i.setO hj hio rfl (fun _ z => by cases z) (fun _ z => by cases z) f.o
/-- .. a new dict -/
theorem SR.setx (i : SR K TG B F G0 G H r s) {j : Nat} {y : Xv} {a : Addr} (hj : j < r.length) (hio : ∀ y, r[j]? = some y → y.isIo = false) (f : FreeO K TG B F G H r s a (.x y)) : SR K TG B F G0 G H (r.set j (.x y)) (s.set j (some (.ref a))) :=
  i.setO hj hio rfl (fun _ z => by cases z) (fun _ z => by cases z) f
theorem put_own (x : Sl) (w : Ow) : (x.put w).own = some w := by
  cases w with
  | l ds => show (if x.isIo then Sl.io ds else .l ds).own = _; split <;> rfl
  | x y => show (if x.isIo then Sl.xo y else .x y).own = _; split <;> rfl
theorem put_io (x : Sl) (w : Ow) : (x.put w).isIo = x.isIo := by
  cases w with
  | l ds => show (if x.isIo then Sl.io ds else .l ds).isIo = _; split <;> simp_all [Sl.isIo]
  | x y => show (if x.isIo then Sl.xo y else .x y).isIo = _; split <;> simp_all [Sl.isIo]
theorem put_nv (x : Sl) (w : Ow) (d : PyData) : x.put w ≠ .v d := fun z => by have := put_own x w; rw [z] at this; cases this
theorem put_nev (x : Sl) (w : Ow) (d : Ex) : x.put w ≠ .ev d := fun z => by have := put_own x w; rw [z] at this; cases this
/-- a name's own thing is written -/
theorem SR.wrO (i : SR K TG B F G0 G H r s) {j : Nat} {x : Sl} {w w' : Ow} {o : HO} {a : Addr} (h : r[j]? = some x) (ho : x.own = some w) (hs : s[j]? = some (some (V.ref a))) (hv : OwR TG K G a w' o) :
    SR K TG B F G0 G (upd H a o) (r.set j (x.put w')) s := by
  have hq : r[j]?.bind Sl.own = some w := by rw [h]; exact ho
  obtain ⟨a', xs, h1, h2, h3, h4, h5⟩ := i.owns j w hq
  have ea : a = a' := by rw [hs] at h1; cases h1; rfl
  subst ea
  have hj : j < r.length := (List.getElem?_eq_some_iff.mp h).1
  refine ⟨by rw [List.length_set]; exact i.len, fun b u q => ?_, fun b u q => ?_, i.g0, i.fg, i.gt, i.ft, fun P hP => ?_, fun k d q => ?_, fun k fs q => ?_, fun k l b fs fs' n q1 q2 e1 => ?_, fun p hp => ?_, fun k e q => ?_⟩
  · rw [upd_ne fun e => by rw [e, h4] at q; cases q]; exact i.gh _ _ q
  · rw [upd_ne fun e => by rw [e, h5] at q; cases q]; exact i.fh _ _ q
  · exact (i.tb P hP).upd h2 h3.notTbl h3.notCode
  · by_cases e : j = k
    · subst e
      rw [List.getElem?_set_self hj] at q
      exact absurd (Option.some.inj q) (put_nv _ _ _)
    · rw [List.getElem?_set_ne e] at q
      exact i.vals k _ q
  · rcases own_set q with ⟨e, q'⟩ | ⟨n, q'⟩
    · subst e
      rw [put_own] at q'
      cases q'
      exact ⟨a, o, hs, upd_same, hv, h4, h5⟩
    · obtain ⟨b, zs, k1, k2, k3, k4, k5⟩ := i.owns k fs q'
      refine ⟨b, zs, k1, ?_, k3, k4, k5⟩
      rw [upd_ne fun e => i.sep j k a w fs n hq q' hs (by rw [← e]; exact k1)]
      exact k2
  · have o1 : ∃ fs, r[k]?.bind Sl.own = some fs := by
      rcases own_set q1 with ⟨e, _⟩ | ⟨_, q'⟩
      · subst e; exact ⟨_, hq⟩
      · exact ⟨_, q'⟩
    have o2 : ∃ fs, r[l]?.bind Sl.own = some fs := by
      rcases own_set q2 with ⟨e, _⟩ | ⟨_, q'⟩
      · subst e; exact ⟨_, hq⟩
      · exact ⟨_, q'⟩
    obtain ⟨_, o1⟩ := o1
    obtain ⟨_, o2⟩ := o2
    exact i.sep k l b _ _ n o1 o2 e1
  · obtain ⟨⟨fs, e1, e3⟩, e2⟩ := i.ios p hp
    refine ⟨?_, e2⟩
    by_cases e : j = p.1
    · rw [← e, List.getElem?_set_self hj]
      rw [← e, h] at e1
      cases e1
      exact ⟨_, rfl, by rw [put_io]; exact e3⟩
    · rw [List.getElem?_set_ne e]
      exact ⟨fs, e1, e3⟩
  · by_cases z : j = k
    · subst z; rw [List.getElem?_set_self hj] at q; exact absurd (Option.some.inj q) (put_nev _ _ _)
    · rw [List.getElem?_set_ne z] at q
      exact i.evs k e q
/-- a name's own list is written -/
theorem SR.wr (i : SR K TG B F G0 G H r s) {j : Nat} {x : Sl} {w : Ow} {es : List PyData} {a : Addr} {ys : List V} (h : r[j]? = some x) (ho : x.own = some w) (hs : s[j]? = some (some (V.ref a))) (hv : RvA K G es ys) :
    SR K TG B F G0 G (upd H a (.lst ys)) (r.set j (x.put (.l es))) s := i.wrO h ho hs ⟨ys, rfl, hv⟩
end

/-! ### a written list -/
def lLst (r : M (List Arg)) : M (List PyData) := aBind r fun ds => if ds.length ≤ sizeLine then .ret ds else .st
theorem SR.newl {K : PySem.W.Frag} {TG : TGx} {B : List (Nat × Addr)} {F G0 G H : Hp} {r : List Sl} {s : L2.St} (i : SR K TG B F G0 G H r s) {p : Addr} {xs : List V} {ds : List PyData} (hp : H p = none) (hv : RvA K G ds xs) :
    SR K TG B F G0 G (upd H p (.lst xs)) r s ∧ Free K B F G (upd H p (.lst xs)) r s p ds :=
  ⟨i.grow (grow_out i.gh hp), ⟨xs, upd_same, hv⟩, none_sub i.gh hp, none_sub i.fh hp, fun j es q e => by
    obtain ⟨a, ys, h1, h2, _⟩ := i.owns j es q
    rw [e] at h1
    cases h1
    rw [hp] at h2
    cases h2⟩
theorem SR.newx {K : PySem.W.Frag} {TG : TGx} {B : List (Nat × Addr)} {F G0 G H : Hp} {r : List Sl} {s : L2.St} (i : SR K TG B F G0 G H r s) {p : Addr} {o : HO} {w : Ow} (hp : H p = none) (hv : OwR TG K G p w o) :
    SR K TG B F G0 G (upd H p o) r s ∧ FreeO K TG B F G (upd H p o) r s p w :=
  ⟨i.grow (grow_out i.gh hp), ⟨o, upd_same, hv⟩, none_sub i.gh hp, none_sub i.fh hp, fun j es q e => by
    obtain ⟨a, ys, h1, h2, _⟩ := i.owns j es q
    rw [e] at h1
    cases h1
    rw [hp] at h2
    cases h2⟩
section
variable {X : Cx} {TG : TGx} {W : WX} {e : Expr} {es : List Expr} {r : M (List Arg)} {pos : Pos}
theorem postL_mono {K : PySem.W.Frag} {W : WX} {B : List (Nat × Addr)} {F G0 G G1 : Hp} {s : L2.St} {Q : VK} (e : Same G G1) : ∀ (x : Res (List PyData)), postL K TG W B F G0 G s Q x → postL K TG W B F G0 G1 s Q x
  | .ok f r, h => fun G' H' a e' => h G' H' a (e.trans e')
  | .ex x r, h => fun G' H' c dx e' => h G' H' c dx (e.trans e')
  | .st, h => h
theorem post_argsL {s : L2.St} {H : Hp} {k : List PyData → M (List PyData)} {Q : VK} (h : rdL X.K TG W (aBind r k) s H Q) :
    rd X.K TG W (RArg X.K s) r s H (fun xs H1 => ∃ B F G0 G1 r1 ds, SR X.K TG B F G0 G1 H1 r1 s ∧ RvA X.K G1 ds xs ∧ postL X.K TG W B F G0 G1 s Q (k ds r1)) := by
  obtain ⟨B, F, G0, G, z, i, p⟩ := h
  refine ⟨B, F, G0, G, z, i, ?_⟩
  unfold aBind M.bind at p
  cases hr : r z with
  | ok as r1 =>
    rw [hr] at p
    intro G' H' b e' i' v
    have p : postL X.K TG W B F G0 G s Q ((match allV as with | some ds => k ds | none => M.st) r1) := p
    cases hq : allV as with
    | none => rw [hq] at p; exact p.elim
    | some ds =>
      rw [hq] at p
      refine ⟨B, F, G0, G', r1, ds, i', allV_rv hq v, ?_⟩
      exact postL_mono e' _ p
  | ex x r1 => rw [hr] at p; exact p
  | st => rw [hr] at p; exact p
theorem dl_lst (h : DA X TG W es r) : DL X TG W (.List es pos) (lLst r) := PE_imp (pe_lst h) fun s H Q q => by
  obtain ⟨B, F, G0, G, z, i, p⟩ := post_argsL q
  refine ⟨B, F, G0, G, z, i, post_imp (fun xs H1 q => ?_) _ p⟩
  obtain ⟨B, F, G0, G1, r1, ds, i1, v1, p1⟩ := q
  split at p1
  · rename_i hz
    refine ⟨by rw [v1.len]; exact hz, fun a ha => ?_⟩
    obtain ⟨i2, f⟩ := i1.newl ha v1
    exact p1 _ _ _ (.refl _) i2 f
  · exact p1.elim
theorem de_fz {d : M (List PyData)} (h : DL X TG W e d) : DE X TG W e (dFz d) := PE_imp h fun s H Q q => rdL_fz q
end

/-! ### statements -/
inductive Fl where
  | nx | bk | ct | rt (d : PyData)
def flow (K : PySem.W.Frag) (D : Ends) (G : Hp) (s : L2.St) (H : Hp) : Fl → Prop
  | .nx => D.nx s H
  | .bk => D.bk s H
  | .ct => D.ct s H
  | .rt d => ∀ v, Rv K G d v → D.rt v H
section
variable (K : PySem.W.Frag) (TG : TGx) (W : WX)
def postS (B : List (Nat × Addr)) (F G0 G : Hp) (D : Ends) : Res Fl → Prop
  | .ok f r => ∀ G' H' s, Same G G' → SR K TG B F G0 G' H' r s → flow K D G' s H' f
  | .ex e r => ∀ G' H' s c dx, Same G G' → SR K TG B F G0 G' H' r s → ExR K G' e c dx → W c dx s H'
  | .st => False
def rdS (d : M Fl) : TS := fun D s H => ∃ B F G0 G r, SR K TG B F G0 G H r s ∧ postS K TG W B F G0 G D (d r)
end
def DS (X : Cx) (TG : TGx) (W : WX) (st : Stmt) (d : M Fl) : Prop := PS X st (rdS X.K TG W d)
def DSs (X : Cx) (TG : TGx) (W : WX) (st : List Stmt) (d : M Fl) : Prop := PSs X st (rdS X.K TG W d)
theorem postS_mono {K : PySem.W.Frag} {TG : TGx} {W : WX} {B : List (Nat × Addr)} {F G0 G G1 : Hp} {D : Ends} (e : Same G G1) : ∀ (x : Res Fl), postS K TG W B F G0 G D x → postS K TG W B F G0 G1 D x
  | .ok f r, h => fun G' H' s e' => h G' H' s (e.trans e')
  | .ex x r, h => fun G' H' s c dx e' => h G' H' s c dx (e.trans e')
  | .st, h => h
/-- an expression ahead of a statement's rest -/
theorem rdS_bind {K : PySem.W.Frag} {TG : TGx} {W : WX} {α β : Type} {R : RL α β} {d : M α} {k : α → M Fl} {D : Ends} {s : L2.St} {H : Hp} (h : rdS K TG W (d.bind k) D s H) :
    rd K TG W R d s H (fun b H1 => ∃ B F G0 G1 r1 a, SR K TG B F G0 G1 H1 r1 s ∧ R G1 a b ∧ postS K TG W B F G0 G1 D (k a r1)) := by
  obtain ⟨B, F, G0, G, r, i, p⟩ := h
  refine ⟨B, F, G0, G, r, i, ?_⟩
  unfold M.bind at p
  cases hr : d r with
  | ok a r1 =>
    rw [hr] at p
    exact fun G' H' b e i' v => ⟨B, F, G0, G', r1, a, i', v, postS_mono e _ p⟩
  | ex x r1 =>
    rw [hr] at p
    exact fun G' H' c dx e i' x => p G' H' s c dx e i' x
  | st => rw [hr] at p; exact p
def sSeq (a b : M Fl) : M Fl := fun r => match a r with
  | .ok .nx r1 => b r1
  | x => x
def sNil : M Fl := .ret .nx
def sRet (d : M PyData) : M Fl := d.bind fun x => .ret (.rt x)
def sRetN : M Fl := .ret (.rt .none)
def sDrop (d : M PyData) : M Fl := d.bind fun _ => .ret .nx
def sIf (t : M Bool) (a b : M Fl) : M Fl := t.bind fun k => if k then a else b
def tSet (i : Nat) (x : PyData) : M Fl := fun r => match r[i]? with
  | some y => if y.isIo then .st else .ok .nx (r.set i (.v x))
  | none => .st
def sSet (i : Nat) (d : M PyData) : M Fl := d.bind (tSet i)
def tSetL (i : Nat) (x : List PyData) : M Fl := fun r => match r[i]? with
  | some y => if y.isIo then .st else .ok .nx (r.set i (.l x))
  | none => .st
def tSetO (i : Nat) (x : Xv) : M Fl := fun r => match r[i]? with
  | some y => if y.isIo then .st else .ok .nx (r.set i (.x x))
  | none => .st
def sSetL (i : Nat) (d : M (List PyData)) : M Fl := d.bind (tSetL i)
section
variable {X : Cx} {TG : TGx} {W : WX} {st : Stmt} {rest : List Stmt} {a b : M Fl} {e c : Expr} {d : M PyData} {t : M Bool} {pos : Pos}
theorem dss_nil : DSs X TG W [] sNil := PSs_imp pss_nil fun D s H h => by
  obtain ⟨B, F, G0, G, r, i, p⟩ := h
  exact p G H s (.refl _) i
theorem dss_cons (h1 : DS X TG W st a) (h2 : DSs X TG W rest b) : DSs X TG W (st :: rest) (sSeq a b) := PSs_imp (pss_cons h1 h2) fun D s H h => by
  obtain ⟨B, F, G0, G, r, i, p⟩ := h
  refine ⟨B, F, G0, G, r, i, ?_⟩
  unfold sSeq at p
  cases ha : a r with
  | ok f r1 =>
    rw [ha] at p
    cases f with
    | nx => exact fun G' H' s' e i' => ⟨B, F, G0, G', r1, i', postS_mono e _ p⟩
    | bk => exact p
    | ct => exact p
    | rt x => exact p
  | ex x r1 => rw [ha] at p; exact p
  | st => rw [ha] at p; exact p
theorem dss_one (h1 : DS X TG W st a) : DSs X TG W [st] a := pss_one h1
theorem ds_ret (h : DE X TG W e d) : DS X TG W (.Return (some e) pos) (sRet d) := PS_imp (L2.ps_ret h) fun D s H q => by
  obtain ⟨B, F, G0, G, r, i, p⟩ := rdS_bind (R := RE X.K) q
  refine ⟨B, F, G0, G, r, i, post_imp (fun x H1 q => ?_) _ p⟩
  obtain ⟨B, F, G0, G1, r1, a, i1, v1, p1⟩ := q
  exact p1 G1 H1 s (.refl _) i1 x v1
theorem ds_retN : DS X TG W (.Return none pos) sRetN := PS_imp ps_retN fun D s H q => by
  obtain ⟨B, F, G0, G, r, i, p⟩ := q
  exact p G H s (.refl _) i V.non rfl
theorem ds_expr (h : DE X TG W e d) (hs : swapsWith e none pos.line X.env = pure false := by rfl) : DS X TG W (.Expr e pos) (sDrop d) := PS_imp (ps_expr h hs) fun D s H q => by
  obtain ⟨B, F, G0, G, r, i, p⟩ := rdS_bind (R := RE X.K) q
  refine ⟨B, F, G0, G, r, i, post_imp (fun x H1 q => ?_) _ p⟩
  obtain ⟨B, F, G0, G1, r1, a, i1, v1, p1⟩ := q
  exact p1 G1 H1 s (.refl _) i1
theorem ds_if {u v : List Stmt} (hc : DT X TG W c t) (ha : DSs X TG W u a) (hb : DSs X TG W v b) : DS X TG W (.If c u v pos) (sIf t a b) := PS_imp (ps_if hc ha hb) fun D s H q => by
  obtain ⟨B, F, G0, G, r, i, p⟩ := rdS_bind (R := RB) q
  refine ⟨B, F, G0, G, r, i, post_imp (fun k H1 q => ?_) _ p⟩
  obtain ⟨B, F, G0, G1, r1, k', i1, v1, p1⟩ := q
  have v1 : k' = k := v1
  subst v1
  cases k' with
  | true => exact ⟨B, F, G0, G1, r1, i1, p1⟩
  | false => exact ⟨B, F, G0, G1, r1, i1, p1⟩
theorem ds_pass : DS X TG W (.Pass pos) sNil := PS_imp ps_pass fun D s H h => by
  obtain ⟨B, F, G0, G, r, i, p⟩ := h
  exact p G H s (.refl _) i
theorem ds_break : DS X TG W (.Break pos) (.ret .bk) := PS_imp ps_break fun D s H h => by
  obtain ⟨B, F, G0, G, r, i, p⟩ := h
  exact p G H s (.refl _) i
theorem ds_continue : DS X TG W (.Continue pos) (.ret .ct) := PS_imp ps_continue fun D s H h => by
  obtain ⟨B, F, G0, G, r, i, p⟩ := h
  exact p G H s (.refl _) i
theorem ds_never : DS X TG W st .st := PS_imp ps_never fun D s H h => by
  obtain ⟨B, F, G0, G, r, i, p⟩ := h
  exact p
theorem dss_never : DSs X TG W rest .st := PSs_imp pss_never fun D s H h => by
  obtain ⟨B, F, G0, G, r, i, p⟩ := h
  exact p
theorem post_tSet {K : PySem.W.Frag} {B : List (Nat × Addr)} {F G0 G H : Hp} {r : List Sl} {s : L2.St} {D : Ends} {i : Nat} {x : PyData} {v : V} (ir : SR K TG B F G0 G H r s) (p : postS K TG W B F G0 G D (tSet i x r)) (hv : Rv K G x v) : D.nx (s.set i (some v)) H := by
  unfold tSet at p
  cases h : r[i]? with
  | none => rw [h] at p; exact p.elim
  | some y =>
    have hj : i < r.length := (List.getElem?_eq_some_iff.mp h).1
    rw [h] at p
    have p : postS K TG W B F G0 G D (if y.isIo then .st else .ok .nx (r.set i (.v x))) := p
    split at p
    · exact p.elim
    · rename_i hn
      exact p G H _ (.refl _) (ir.setv hj (fun z q => by rw [h] at q; cases q; simpa using hn) hv)
theorem post_tSetL {K : PySem.W.Frag} {B : List (Nat × Addr)} {F G0 G H : Hp} {r : List Sl} {s : L2.St} {D : Ends} {i : Nat} {x : List PyData} {v : Addr} (ir : SR K TG B F G0 G H r s) (p : postS K TG W B F G0 G D (tSetL i x r)) (hv : Free K B F G H r s v x) : D.nx (s.set i (some (.ref v))) H := by
  unfold tSetL at p
  cases h : r[i]? with
  | none => rw [h] at p; exact p.elim
  | some y =>
    have hj : i < r.length := (List.getElem?_eq_some_iff.mp h).1
    rw [h] at p
    have p : postS K TG W B F G0 G D (if y.isIo then .st else .ok .nx (r.set i (.l x))) := p
    split at p
    · exact p.elim
    · rename_i hn
      exact p G H _ (.refl _) (ir.setl hj (fun z q => by rw [h] at q; cases q; simpa using hn) hv)
theorem post_tSetO {K : PySem.W.Frag} {B : List (Nat × Addr)} {F G0 G H : Hp} {r : List Sl} {s : L2.St} {D : Ends} {i : Nat} {x : Xv} {v : Addr} (ir : SR K TG B F G0 G H r s) (p : postS K TG W B F G0 G D (tSetO i x r)) (hv : FreeO K TG B F G H r s v (.x x)) : D.nx (s.set i (some (.ref v))) H := by
  unfold tSetO at p
  cases h : r[i]? with
  | none => rw [h] at p; exact p.elim
  | some y =>
    have hj : i < r.length := (List.getElem?_eq_some_iff.mp h).1
    rw [h] at p
    have p : postS K TG W B F G0 G D (if y.isIo then .st else .ok .nx (r.set i (.x x))) := p
    split at p
    · exact p.elim
    · rename_i hn
      exact p G H _ (.refl _) (ir.setx hj (fun z q => by rw [h] at q; cases q; simpa using hn) hv)
theorem ds_set {i : Nat} {te : TE} (h : PS X st (tAsg te (gName i))) (w : ∀ s H Q, rd X.K TG W (RE X.K) d s H Q → te s H Q) : DS X TG W st (sSet i d) := PS_imp h fun D s H q => by
  refine w s H _ ?_
  obtain ⟨B, F, G0, G, r, i, p⟩ := rdS_bind (R := RE X.K) q
  refine ⟨B, F, G0, G, r, i, post_imp (fun x H1 q => ?_) _ p⟩
  obtain ⟨B, F, G0, G1, r1, a, i1, v1, p1⟩ := q
  exact post_tSet i1 p1 v1
theorem ds_setL {i : Nat} {te : TE} {d : M (List PyData)} (h : PS X st (tAsg te (gName i))) (w : ∀ s H Q, rdL X.K TG W d s H Q → te s H Q) : DS X TG W st (sSetL i d) := PS_imp h fun D s H q => by
  refine w s H _ ?_
  obtain ⟨B, F, G0, G, r, ir, p⟩ := q
  refine ⟨B, F, G0, G, r, ir, ?_⟩
  unfold sSetL M.bind at p
  cases hd : d r with
  | ok ds r1 =>
    rw [hd] at p
    exact fun G' H' v e i' f => post_tSetL i' (postS_mono e _ p) f
  | ex x r1 =>
    rw [hd] at p
    exact fun G' H' c dx e i' x => p G' H' s c dx e i' x
  | st => rw [hd] at p; exact p
end

/-! ### targets -/
abbrev Tg := PyData → List Sl → Option (List Sl)
abbrev Tgs := List PyData → List Sl → Option (List Sl)
/-- outside the names ns two states are alike -/
def Like (ns : List Nat) (s s' : L2.St) : Prop := s'.length = s.length ∧ ∀ j, j ∉ ns → s'[j]? = s[j]?
def rdG (K : PySem.W.Frag) (TG : TGx) (ns : List Nat) (T : Tg) : L2.TG := fun v s H Q => ∃ B F G0 G r d r', SR K TG B F G0 G H r s ∧ Rv K G d v ∧ T d r = some r' ∧ ∀ G' H' s', Same G G' → SR K TG B F G0 G' H' r' s' → Like ns s s' → Q s' H'
def rdGs (K : PySem.W.Frag) (TG : TGx) (ns : List Nat) (T : Tgs) : L2.TGs := fun vs s H Q => ∃ B F G0 G r ds r', SR K TG B F G0 G H r s ∧ RvA K G ds vs ∧ T ds r = some r' ∧ ∀ G' H' s', Same G G' → SR K TG B F G0 G' H' r' s' → Like ns s s' → Q s' H'
def DG (X : Cx) (TG : TGx) (tg : Expr) (ns : List Nat) (T : Tg) : Prop := PG X tg (rdG X.K TG ns T)
def DGs (X : Cx) (TG : TGx) (tg : List Expr) (ns : List Nat) (T : Tgs) : Prop := PGs X tg (rdGs X.K TG ns T)
def gN (i : Nat) : Tg := fun x r => match r[i]? with
  | some y => if y.isIo then none else some (r.set i (.v x))
  | none => none
def gT (T : Tgs) : Tg
  | .tuple ds, r => T ds r
  | _, _ => none
def gsN : Tgs
  | [], r => some r
  | _, _ => none
def gsC (T : Tg) (U : Tgs) : Tgs
  | d :: ds, r => (T d r).bind (U ds)
  | [], _ => none
/-- how many names a target tuple has -/
def gLen (n : Nat) (T : Tgs) : Tgs := fun ds r => if ds.length = n then T ds r else none
theorem PG_imp {X : Cx} {tg : Expr} {t t' : L2.TG} (h : PG X tg t) (w : ∀ v s H Q, t' v s H Q → t v s H Q) : PG X tg t' := ⟨fun pins s σ H v u Q I r q => h.run pins s σ H v u Q I r (w _ _ _ _ q)⟩
theorem PGs_imp {X : Cx} {tg : List Expr} {t t' : L2.TGs} (h : PGs X tg t) (w : ∀ v s H Q, t' v s H Q → t v s H Q) : PGs X tg t' := ⟨fun pins s σ H v u Q I r q => h.run pins s σ H v u Q I r (w _ _ _ _ q)⟩
section
variable {X : Cx} {TG : TGx} {tg : Expr} {tgs : List Expr} {T : Tg} {U : Tgs} {ns ms : List Nat} {pos : Pos}
theorem Like.refl (ns : List Nat) (s : L2.St) : Like ns s s := ⟨rfl, fun _ _ => rfl⟩
theorem Like.one (i : Nat) (s : L2.St) (x : Option V) : Like [i] s (s.set i x) := ⟨List.length_set, fun j h => List.getElem?_set_ne (fun e => h (by rw [e]; exact List.mem_singleton_self _))⟩
theorem Like.trans {ns ms : List Nat} {s t u : L2.St} (a : Like ns s t) (b : Like ms t u) : Like (ns ++ ms) s u := ⟨b.1.trans a.1, fun j h => by
  rw [List.mem_append, not_or] at h
  rw [b.2 j h.2, a.2 j h.1]⟩
theorem dg_name {i : Nat} (h : PG X tg (gName i)) : DG X TG tg [i] (gN i) := PG_imp h fun v s H Q q => by
  obtain ⟨B, F, G0, G, r, d, r', ir, hv, ht, p⟩ := q
  unfold gN at ht
  cases h : r[i]? with
  | none => rw [h] at ht; cases ht
  | some y =>
    have hj : i < r.length := (List.getElem?_eq_some_iff.mp h).1
    rw [h] at ht
    have ht : (if y.isIo then none else some (r.set i (.v d))) = some r' := ht
    split at ht
    · cases ht
    · rename_i hn
      cases ht
      exact p G H _ (.refl _) (ir.setv hj (fun z q => by rw [h] at q; cases q; simpa using hn) hv) (.one _ _ _)
theorem dgs_nil : DGs X TG [] [] gsN := PGs_imp pgs_nil fun v s H Q q => by
  obtain ⟨B, F, G0, G, r, ds, r', ir, hv, ht, p⟩ := q
  cases ds with
  | nil => cases ht; exact ⟨hv, p G H s (.refl _) ir (.refl _ _)⟩
  | cons d ds => cases ht
theorem dgs_cons (h1 : DG X TG tg ns T) (h2 : DGs X TG tgs ms U) (hs : (assignEach (tg :: tgs) X.env).map (·.2) = assign tg X.env :: (assignEach tgs X.env).map (·.2) := by rfl) : DGs X TG (tg :: tgs) (ns ++ ms) (gsC T U) := PGs_imp (pgs_cons h1 h2 hs) fun v s H Q q => by
  obtain ⟨B, F, G0, G, r, ds, r', ir, hv, ht, p⟩ := q
  cases ds with
  | nil => cases ht
  | cons d ds =>
    obtain ⟨x, xs, e, v1, v2⟩ := hv
    subst e
    have ht : (T d r).bind (U ds) = some r' := ht
    cases hq : T d r with
    | none => rw [hq] at ht; cases ht
    | some r1 =>
      rw [hq] at ht
      exact ⟨x, xs, rfl, B, F, G0, G, r, d, r1, ir, v1, hq, fun G' H' s' e i' l => ⟨B, F, G0, G', r1, ds, r', i', RvA.mono e _ _ v2, ht, fun G2 H2 s2 e2 i2 l2 => p G2 H2 s2 (e.trans e2) i2 (l.trans l2)⟩⟩
theorem dg_tup {n k : Nat} (hc : X.calm = true) (h : DGs X TG tgs ns U) (hn : (assignEach tgs X.env).length = n := by rfl) (hst : (assignEach tgs X.env).findIdx? (·.1) = none := by rfl) : DG X TG (.Tuple tgs k pos) ns (gT (gLen n U)) :=
  PG_imp (pg_tup (n := n) hc h hn hst) fun v s H Q q => by
    obtain ⟨B, F, G0, G, r, d, r', ir, hv, ht, p⟩ := q
    cases d with
    | tuple ds =>
      obtain ⟨a, xs, e, h1, h2⟩ := hv
      subst e
      have ht : (if ds.length = n then U ds r else none) = some r' := ht
      split at ht
      · rename_i hz
        exact ⟨a, xs, rfl, same_t ir.gh h1, by rw [h2.len]; exact hz, B, F, G0, G, r, ds, r', ir, h2, ht, p⟩
      · cases ht
    | none => cases ht
    | bool _ => cases ht
    | int _ => cases ht
    | str _ => cases ht
    | list _ => cases ht
    | dict _ => cases ht
def tAsgG (T : Tg) (x : PyData) : M Fl := fun r => match T x r with
  | some r' => .ok .nx r'
  | none => .st
def sAsg (d : M PyData) (T : Tg) : M Fl := d.bind (tAsgG T)
theorem ds_asg {W : WX} {st : Stmt} {d : M PyData} {te : TE} (h : PS X st (tAsg te (rdG X.K TG ns T))) (w : ∀ s H Q, rd X.K TG W (RE X.K) d s H Q → te s H Q) : DS X TG W st (sAsg d T) := PS_imp h fun D s H q => by
  refine w s H _ ?_
  obtain ⟨B, F, G0, G, r, i, p⟩ := rdS_bind (R := RE X.K) q
  refine ⟨B, F, G0, G, r, i, post_imp (fun x H1 q => ?_) _ p⟩
  obtain ⟨B, F, G0, G1, r1, a, i1, v1, p1⟩ := q
  unfold tAsgG at p1
  cases ht : T a r1 with
  | none => rw [ht] at p1; exact p1.elim
  | some r2 =>
    rw [ht] at p1
    exact ⟨B, F, G0, G1, r1, a, r2, i1, v1, ht, fun G' H' s' e i' _ => p1 G' H' s' e i'⟩
end
end TW

end
section
namespace TW
open PySem PySem.Spec PyProof.Rows L2

/-! ### what is walked -/
structure ItOk (K : PySem.W.Frag) (G : Hp) (ds : List PyData) (J : It) : Prop where
  go : ∀ i H, Same G H → i < ds.length → J.go i H
  stop : ∀ H, Same G H → J.stop ds.length H
  yld : ∀ i H x H' G1, Same G G1 → Same G1 H → i < ds.length → J.yld i H x H' → ∃ d G2, ds[i]? = some d ∧ Grow G1 H G2 H' ∧ Rv K G2 d x
section
variable (K : PySem.W.Frag) (TG : TGx) (W : WX)
def postI (B : List (Nat × Addr)) (F G0 G : Hp) (s : L2.St) (R : It → Hp → Prop) : Res (List PyData) → Prop
  | .ok ds r => ∀ G' H' J, Same G G' → SR K TG B F G0 G' H' r s → ItOk K G' ds J → R J H'
  | .ex e r => ∀ G' H' c dx, Same G G' → SR K TG B F G0 G' H' r s → ExR K G' e c dx → W c dx s H'
  | .st => False
def rdI (d : M (List PyData)) : TI := fun s H R => ∃ B F G0 G r, SR K TG B F G0 G H r s ∧ postI K TG W B F G0 G s R (d r)
end
def DI (X : Cx) (TG : TGx) (W : WX) (tg e : Expr) (d : M (List PyData)) : Prop := PI X tg e (rdI X.K TG W d)
theorem PI_imp {X : Cx} {tg e : Expr} {t t' : TI} (h : PI X tg e t) (w : ∀ s H R, t' s H R → t s H R) : PI X tg e t' := ⟨fun pins s σ H R I q => h.run pins s σ H R I (w _ _ _ q)⟩
theorem PI_or {X : Cx} {tg e : Expr} {t u : TI} (h : PI X tg e t) (h2 : PI X tg e u) : PI X tg e (fun s H R => t s H R ∨ u s H R) := ⟨fun pins s σ H R I q => q.elim (h.run pins s σ H R I) (h2.run pins s σ H R I)⟩
section
variable {K : PySem.W.Frag} {G : Hp}
theorem it_list {a : Addr} {xs : List V} {ds : List PyData} (h : G a = some (HO.lst xs)) (v : RvA K G ds xs) : ItOk K G ds (Itl K a) where
  go := fun i H e hi => by
    obtain ⟨x, h1, _⟩ := v.at (List.getElem?_eq_getElem hi)
    exact ⟨xs, x, same_l e h, h1⟩
  stop := fun H e => ⟨xs, same_l e h, by rw [v.len]; exact Nat.le_refl _⟩
  yld := fun i H x H' G1 e1 e2 hi y => by
    obtain ⟨rfl, y⟩ := y
    obtain ⟨d, h1, h2⟩ := v.at' (y xs (same_l (e1.trans e2) h))
    exact ⟨d, G1, h1, Grow.refl e2, Rv.mono e1 _ _ h2⟩
theorem it_tup {a : Addr} {xs : List V} {ds : List PyData} (h : SqT K G a xs) (v : RvA K G ds xs) : ItOk K G ds (Itt K a) where
  go := fun i H e hi => by
    obtain ⟨x, h1, _⟩ := v.at (List.getElem?_eq_getElem hi)
    exact ⟨xs, x, same_t e h, h1⟩
  stop := fun H e => ⟨xs, same_t e h, by rw [v.len]; exact Nat.le_refl _⟩
  yld := fun i H x H' G1 e1 e2 hi y => by
    obtain ⟨rfl, y⟩ := y
    obtain ⟨d, h1, h2⟩ := v.at' (y xs (same_t (e1.trans e2) h))
    exact ⟨d, G1, h1, Grow.refl e2, Rv.mono e1 _ _ h2⟩
def rangeD (lo : Int) (n : Nat) : List PyData := (List.range n).map fun (i : Nat) => PyData.int (lo + (i : Int))
theorem rangeD_len (lo : Int) (n : Nat) : (rangeD lo n).length = n := by simp [rangeD]
theorem it_range {lo : Int} {n : Nat} : ItOk K G (rangeD lo n) (Itr lo n) where
  go := fun i H _ hi => by rw [rangeD_len] at hi; exact hi
  stop := fun H _ => by rw [rangeD_len]; exact Nat.le_refl _
  yld := fun i H x H' G1 e1 e2 hi y => by
    obtain ⟨rfl, rfl⟩ := y
    rw [rangeD_len] at hi
    exact ⟨.int (lo + (i : Int)), G1, by simp [rangeD, hi], Grow.refl e2, rfl⟩
end
/-- the items of a list or a tuple -/
def items : PyData → M (List PyData)
  | .list ds => .ret ds
  | .tuple ds => .ret ds
  | _ => .st
def iSeq (d : M PyData) : M (List PyData) := d.bind items
def iRange1 : List PyData → M (List PyData)
  | [.int j] => if -(2 ^ 62) ≤ j ∧ j < 2 ^ 62 then .ret (rangeD 0 j.toNat) else .st
  | _ => .st
def iRange2 : List PyData → M (List PyData)
  | [.int i, .int j] => if -(2 ^ 62) ≤ i ∧ i < 2 ^ 62 ∧ -(2 ^ 62) ≤ j ∧ j < 2 ^ 62 then .ret (rangeD i (j - i).toNat) else .st
  | _ => .st
def iZip : List PyData → M (List PyData)
  | [.list xs, .list ys] => .ret ((xs.zip ys).map fun p => .tuple [p.1, p.2])
  | [.tuple xs, .tuple ys] => .ret ((xs.zip ys).map fun p => .tuple [p.1, p.2])
  | _ => .st
def enumD (ds : List PyData) : List PyData := (ds.zipIdx).map fun p => .tuple [.int (p.2 : Int), p.1]
def iEnumL : List PyData → M (List PyData)
  | [.list xs] => .ret (enumD xs)
  | _ => .st
section
variable {X : Cx} {TG : TGx} {W : WX} {tg e e2 : Expr} {d : M PyData} {r : M (List Arg)} {p pos tpos : Pos}
theorem rdI_bind {K : PySem.W.Frag} {α β : Type} {R1 : RL α β} {d : M α} {k : α → M (List PyData)} {s : L2.St} {H : Hp} {R : It → Hp → Prop} (h : rdI K TG W (d.bind k) s H R) :
    rd K TG W R1 d s H (fun b H1 => ∃ B F G0 G1 r1 a, SR K TG B F G0 G1 H1 r1 s ∧ R1 G1 a b ∧ postI K TG W B F G0 G1 s R (k a r1)) := by
  obtain ⟨B, F, G0, G, z, i, p⟩ := h
  refine ⟨B, F, G0, G, z, i, ?_⟩
  unfold M.bind at p
  cases hr : d z with
  | ok a r1 =>
    rw [hr] at p
    intro G' H' b e i' v
    refine ⟨B, F, G0, G', r1, a, i', v, ?_⟩
    have p : postI K TG W B F G0 G s R (k a r1) := p
    cases hk : k a r1 with
    | ok ds r2 => rw [hk] at p; exact fun G2 H2 J e2 => p G2 H2 J (e.trans e2)
    | ex x r2 => rw [hk] at p; exact fun G2 H2 c dx e2 => p G2 H2 c dx (e.trans e2)
    | st => rw [hk] at p; exact p
  | ex x r1 => rw [hr] at p; exact p
  | st => rw [hr] at p; exact p
theorem di_seq (h : DE X TG W e d) : DI X TG W tg e (iSeq d) := PI_imp (PI_or (pi_list (tg := tg) h) (pi_tup (tg := tg) h)) fun s H R q => by
  obtain ⟨B, F, G0, G, z, i, p⟩ := q
  unfold iSeq M.bind at p
  cases hr : d z with
  | ok a r1 =>
    rw [hr] at p
    have p : postI X.K TG W B F G0 G s R (items a r1) := p
    cases a with
    | list ds =>
      refine .inl ⟨B, F, G0, G, z, i, ?_⟩
      rw [hr]
      intro G' H' b e' i' v
      obtain ⟨c, xs, h1, h2, h3⟩ := v
      exact ⟨c, h1, ⟨xs, same_l i'.gh h2⟩, p G' H' _ e' i' (it_list h2 h3)⟩
    | tuple ds =>
      refine .inr ⟨B, F, G0, G, z, i, ?_⟩
      rw [hr]
      intro G' H' b e' i' v
      obtain ⟨c, xs, h1, h2, h3⟩ := v
      exact ⟨c, h1, ⟨xs, same_t i'.gh h2⟩, p G' H' _ e' i' (it_tup h2 h3)⟩
    | none => exact p.elim
    | bool _ => exact p.elim
    | int _ => exact p.elim
    | str _ => exact p.elim
    | dict _ => exact p.elim
  | ex x r1 => rw [hr] at p; exact .inl ⟨B, F, G0, G, z, i, by rw [hr]; exact p⟩
  | st => rw [hr] at p; exact p.elim
/-- what is walked is made of plain arguments -/
theorem rdI_args {k : List PyData → M (List PyData)} {s : L2.St} {H : Hp} {R : It → Hp → Prop} (h : rdI X.K TG W (aBind r k) s H R) :
    rd X.K TG W (RArg X.K s) r s H (fun xs H1 => ∃ B F G0 G1 r1 ds, SR X.K TG B F G0 G1 H1 r1 s ∧ RvA X.K G1 ds xs ∧ postI X.K TG W B F G0 G1 s R (k ds r1)) := by
  obtain ⟨B, F, G0, G, z, i, p⟩ := rdI_bind (R1 := RArg X.K s) h
  refine ⟨B, F, G0, G, z, i, post_imp (fun xs H1 q => ?_) _ p⟩
  obtain ⟨B, F, G0, G1, r1, as, i1, v1, p1⟩ := q
  cases hq : allV as with
  | none => rw [hq] at p1; exact p1.elim
  | some ds => rw [hq] at p1; exact ⟨B, F, G0, G1, r1, ds, i1, allV_rv hq v1, p1⟩
theorem di_range1 (hg : Gl X "range") (hm : X.mg "range" = none) (ha : DA X TG W [e] r) (hs : starEach [e] X.env = [(false, eval e X.env)] := by rfl) : DI X TG W tg (.Call (.Name "range" p) [e] [] pos) (aBind r iRange1) := PI_imp (pi_range1 hg hm ha hs) fun s H R q => by
  obtain ⟨B, F, G0, G, z, i, p⟩ := rdI_args q
  refine ⟨B, F, G0, G, z, i, post_imp (fun xs H1 q => ?_) _ p⟩
  obtain ⟨B, F, G0, G1, r1, ds, i1, v1, p1⟩ := q
  unfold iRange1 at p1
  split at p1
  · rename_i j
    split at p1
    · rename_i hz
      obtain ⟨x, r, rfl, v2, v3⟩ := v1
      cases v2; cases v3
      exact ⟨j, rfl, hz.1, hz.2, p1 G1 H1 _ (.refl _) i1 it_range⟩
    · exact p1.elim
  · exact p1.elim
theorem di_range2 (hg : Gl X "range") (hm : X.mg "range" = none) (ha : DA X TG W [e, e2] r) (hs : starEach [e, e2] X.env = [(false, eval e X.env), (false, eval e2 X.env)] := by rfl) (hs2 : starEach [e2] X.env = [(false, eval e2 X.env)] := by rfl) :
    DI X TG W tg (.Call (.Name "range" p) [e, e2] [] pos) (aBind r iRange2) := PI_imp (pi_range2 hg hm ha hs hs2) fun s H R q => by
  obtain ⟨B, F, G0, G, z, i, p⟩ := rdI_args q
  refine ⟨B, F, G0, G, z, i, post_imp (fun xs H1 q => ?_) _ p⟩
  obtain ⟨B, F, G0, G1, r1, ds, i1, v1, p1⟩ := q
  unfold iRange2 at p1
  split at p1
  · rename_i j k
    split at p1
    · rename_i hz
      obtain ⟨x, r, rfl, v2, y, r', rfl, v3, v4⟩ := v1
      cases v2; cases v3; cases v4
      exact ⟨j, k, rfl, hz, p1 G1 H1 _ (.refl _) i1 it_range⟩
    · exact p1.elim
  · exact p1.elim
theorem pair_yld {K : PySem.W.Frag} {G1 H : Hp} {T : Addr} {x y : V} {d e : PyData} (e2 : Same G1 H) (hT : H T = none) (h1 : Rv K G1 d x) (h2 : Rv K G1 e y) :
    Grow G1 H (upd G1 T (.tup [x, y])) (upd H T (.tup [x, y])) ∧ Rv K (upd G1 T (.tup [x, y])) (.tuple [d, e]) (.ref T) := by
  have g := Grow.new e2 hT (.tup [x, y]) (fun _ z => by cases z)
  exact ⟨g, T, [x, y], rfl, .inl (.inl upd_same), x, [y], rfl, Rv.mono g.g _ _ h1, y, [], rfl, Rv.mono g.g _ _ h2, rfl⟩
theorem it_zip {K : PySem.W.Frag} {G : Hp} {a b : Addr} {xs ys : List V} {ds es : List PyData} (h : G a = some (HO.lst xs)) (h' : G b = some (HO.lst ys)) (v : RvA K G ds xs) (w : RvA K G es ys) : ItOk K G ((ds.zip es).map fun p => .tuple [p.1, p.2]) (Itz K a b) where
  go := fun i H e hi => by
    have hi : i < min ds.length es.length := by simpa using hi
    obtain ⟨x, h1, _⟩ := v.at (List.getElem?_eq_getElem (show i < ds.length by omega))
    obtain ⟨y, h2, _⟩ := w.at (List.getElem?_eq_getElem (show i < es.length by omega))
    exact ⟨xs, ys, x, y, same_l e h, same_l e h', h1, h2⟩
  stop := fun H e => ⟨xs, ys, same_l e h, same_l e h', by rw [v.len, w.len]; simp; omega⟩
  yld := fun i H x H' G1 e1 e2 hi y => by
    obtain ⟨T, x1, x2, rfl, hT, rfl, f1, f2⟩ := y
    obtain ⟨d, d1, d2⟩ := v.at' (f1 xs (same_l (e1.trans e2) h))
    obtain ⟨e, c1, c2⟩ := w.at' (f2 ys (same_l (e1.trans e2) h'))
    obtain ⟨g, rv⟩ := pair_yld e2 hT (Rv.mono e1 _ _ d2) (Rv.mono e1 _ _ c2)
    exact ⟨.tuple [d, e], _, by simp [List.getElem?_zip_eq_some, d1, c1], g, rv⟩
theorem it_zipT {K : PySem.W.Frag} {G : Hp} {a b : Addr} {xs ys : List V} {ds es : List PyData} (h : SqT K G a xs) (h' : SqT K G b ys) (v : RvA K G ds xs) (w : RvA K G es ys) : ItOk K G ((ds.zip es).map fun p => .tuple [p.1, p.2]) (RZ.ItzT K a b) where
  go := fun i H e hi => by
    have hi : i < min ds.length es.length := by simpa using hi
    obtain ⟨x, h1, _⟩ := v.at (List.getElem?_eq_getElem (show i < ds.length by omega))
    obtain ⟨y, h2, _⟩ := w.at (List.getElem?_eq_getElem (show i < es.length by omega))
    exact ⟨xs, ys, x, y, same_t e h, same_t e h', h1, h2⟩
  stop := fun H e => ⟨xs, ys, same_t e h, same_t e h', by rw [v.len, w.len]; simp; omega⟩
  yld := fun i H x H' G1 e1 e2 hi y => by
    obtain ⟨T, x1, x2, rfl, hT, rfl, f1, f2⟩ := y
    obtain ⟨d, d1, d2⟩ := v.at' (f1 xs (same_t (e1.trans e2) h))
    obtain ⟨e, c1, c2⟩ := w.at' (f2 ys (same_t (e1.trans e2) h'))
    obtain ⟨g, rv⟩ := pair_yld e2 hT (Rv.mono e1 _ _ d2) (Rv.mono e1 _ _ c2)
    exact ⟨.tuple [d, e], _, by simp [List.getElem?_zip_eq_some, d1, c1], g, rv⟩
theorem it_enum {K : PySem.W.Frag} {G : Hp} {a : Addr} {xs : List V} {ds : List PyData} (h : G a = some (HO.lst xs)) (v : RvA K G ds xs) : ItOk K G (enumD ds) (Ite K a) where
  go := fun i H e hi => by
    have hi : i < ds.length := by simpa [enumD] using hi
    obtain ⟨x, h1, _⟩ := v.at (List.getElem?_eq_getElem hi)
    exact ⟨xs, x, same_l e h, h1⟩
  stop := fun H e => ⟨xs, same_l e h, by rw [v.len]; simp [enumD]⟩
  yld := fun i H x H' G1 e1 e2 hi y => by
    obtain ⟨T, x1, rfl, hT, rfl, f1⟩ := y
    obtain ⟨d, d1, d2⟩ := v.at' (f1 xs (same_l (e1.trans e2) h))
    obtain ⟨g, rv⟩ := pair_yld e2 hT (show Rv K G1 (.int (i : Nat)) (.int (i : Nat)) from rfl) (Rv.mono e1 _ _ d2)
    exact ⟨_, _, by simp [enumD, d1], g, rv⟩
theorem di_zip {elts : List Expr} {kk : Nat} (hg : Gl X "zip") (hm : X.mg "zip" = none) (ha : DA X TG W [e, e2] r) (hs : starEach [e, e2] X.env = (false, eval e X.env) :: starEach [e2] X.env := by rfl) (hpl : (backTo pos (starEach [e2] X.env)).any (·.1) = false := by rfl) :
    DI X TG W (.Tuple elts kk tpos) (.Call (.Name "zip" p) [e, e2] [] pos) (aBind r iZip) := PI_imp (RZ.pi_zipA hg hm ha hs hpl) fun s H R q => by
  obtain ⟨B, F, G0, G, z, i, p⟩ := rdI_args q
  refine ⟨B, F, G0, G, z, i, post_imp (fun xs H1 q => ?_) _ p⟩
  obtain ⟨B, F, G0, G1, r1, ds, i1, v1, p1⟩ := q
  unfold iZip at p1
  split at p1
  · obtain ⟨x, r, rfl, v2, y, r', rfl, v3, v4⟩ := v1
    obtain ⟨a, xs, rfl, a1, a2⟩ := v2
    obtain ⟨b, ys, rfl, b1, b2⟩ := v3
    cases v4
    exact ⟨a, b, xs, ys, rfl, .inl ⟨same_l i1.gh a1, same_l i1.gh b1, p1 G1 H1 _ (.refl _) i1 (it_zip a1 b1 a2 b2)⟩⟩
  · obtain ⟨x, r, rfl, v2, y, r', rfl, v3, v4⟩ := v1
    obtain ⟨a, xs, rfl, a1, a2⟩ := v2
    obtain ⟨b, ys, rfl, b1, b2⟩ := v3
    cases v4
    exact ⟨a, b, xs, ys, rfl, .inr ⟨same_t i1.gh a1, same_t i1.gh b1, p1 G1 H1 _ (.refl _) i1 (it_zipT a1 b1 a2 b2)⟩⟩
  · exact p1.elim
theorem di_enumL {elts : List Expr} {kk : Nat} (hg : Gl X "enumerate") (hm : X.mg "enumerate" = none) (ha : DA X TG W [e] r) (hs : starEach [e] X.env = [(false, eval e X.env)] := by rfl) :
    DI X TG W (.Tuple elts kk tpos) (.Call (.Name "enumerate" p) [e] [] pos) (aBind r iEnumL) := PI_imp (pi_enum hg hm ha hs) fun s H R q => by
  obtain ⟨B, F, G0, G, z, i, p⟩ := rdI_args q
  refine ⟨B, F, G0, G, z, i, post_imp (fun xs H1 q => ?_) _ p⟩
  obtain ⟨B, F, G0, G1, r1, ds, i1, v1, p1⟩ := q
  unfold iEnumL at p1
  split at p1
  · obtain ⟨x, r, rfl, v2, v4⟩ := v1
    obtain ⟨a, xs, rfl, a1, a2⟩ := v2
    cases v4
    exact ⟨a, xs, rfl, same_l i1.gh a1, p1 G1 H1 _ (.refl _) i1 (it_enum a1 a2)⟩
  · exact p1.elim
end

/-! ### for, while -/
def forF (T : Tg) (b : M Fl) : List PyData → M Fl
  | [] => .ret .nx
  | d :: ds => fun r => match T d r with
    | some r1 => match b r1 with
      | .ok .nx r2 => forF T b ds r2
      | .ok .ct r2 => forF T b ds r2
      | .ok .bk r2 => .ok .nx r2
      | x => x
    | none => .st
def sFor (it : M (List PyData)) (T : Tg) (b : M Fl) : M Fl := it.bind (forF T b)
def whileF (c : M Bool) (b : M Fl) : Nat → M Fl
  | 0 => .st
  | n + 1 => fun r => match c r with
    | .ok true r1 => match b r1 with
      | .ok .nx r2 => whileF c b n r2
      | .ok .ct r2 => whileF c b n r2
      | .ok .bk r2 => .ok .nx r2
      | x => x
    | .ok false r1 => .ok .nx r1
    | .ex e r1 => .ex e r1
    | .st => .st
def FUEL : Nat := 1000000
def sWhile (c : M Bool) (b : M Fl) : M Fl := whileF c b FUEL
section
variable {X : Cx} {TG : TGx} {W : WX} {tg iter c : Expr} {body : List Stmt} {ns : List Nat} {T : Tg} {b : M Fl} {it : M (List PyData)} {t : M Bool} {pos : Pos}
theorem ds_for (hp : PassesOwn (model X.prog X.w) X.A X.env X.xe) (hc : X.calm = true) (hi : DI X TG W tg iter it) (hg : DG X TG tg ns T) (hb : DSs X TG W body b) (hs : ∀ x, foldedSetIterable iter X.env x = pure x := by intro _; rfl) :
    DS X TG W (.For tg iter body [] pos) (sFor it T b) := PS_imp (ps_for hp hc hi hg hb hs) fun D s H q => by
  obtain ⟨B, F, G0, G, r, i, p⟩ := q
  refine ⟨B, F, G0, G, r, i, ?_⟩
  unfold sFor M.bind at p
  cases hr : it r with
  | st => rw [hr] at p; exact p
  | ex x r1 => rw [hr] at p; exact fun G' H' c dx => p G' H' s c dx
  | ok ds r1 =>
    rw [hr] at p
    have p : postS X.K TG W B F G0 G D (forF T b ds r1) := p
    intro G' H' J e i' ok
    refine ⟨fun i m s' H2 => m = ds.length - i ∧ i ≤ ds.length ∧ ∃ G2 r2, Same G' G2 ∧ SR X.K TG B F G0 G2 H2 r2 s' ∧ postS X.K TG W B F G0 G2 D (forF T b (ds.drop i) r2),
      ⟨ds.length, rfl, Nat.zero_le _, G', r1, .refl _, i', postS_mono e _ p⟩, ?_⟩
    rintro i m s' H2 ⟨rfl, hi, G2, r2, e2, i2, p2⟩
    by_cases hlt : i < ds.length
    · refine .inr ⟨ok.go i H2 (e2.trans i2.gh) hlt, fun s3 H3 => ∃ G3 r3, Same G' G3 ∧ SR X.K TG B F G0 G3 H3 r3 s3 ∧ postS X.K TG W B F G0 G3 D (forF T b (ds.drop (i + 1)) r3),
        fun s3 H3 ⟨G3, r3, h1, h2, h3⟩ => ⟨ds.length - (i + 1), by omega, rfl, hlt, G3, r3, h1, h2, h3⟩, fun x H3 y => ?_⟩
      obtain ⟨d, G3, hd, gr, rv⟩ := ok.yld i H2 x H3 G2 e2 i2.gh hlt y
      have hdrop : ds.drop i = d :: ds.drop (i + 1) := by
        rw [List.drop_eq_getElem_cons hlt]
        rw [List.getElem?_eq_getElem hlt] at hd
        rw [Option.some.inj hd]
      rw [hdrop] at p2
      have p2 : postS X.K TG W B F G0 G2 D (match T d r2 with
        | some r1 => match b r1 with
          | .ok .nx r2 => forF T b (ds.drop (i + 1)) r2
          | .ok .ct r2 => forF T b (ds.drop (i + 1)) r2
          | .ok .bk r2 => .ok .nx r2
          | x => x
        | none => .st) := p2
      cases ht : T d r2 with
      | none => rw [ht] at p2; exact p2.elim
      | some r3 =>
        rw [ht] at p2
        refine ⟨B, F, G0, G3, r2, d, r3, i2.grow gr, rv, ht, fun G4 H4 s4 e4 i4 _ => ⟨B, F, G0, G4, r3, i4, ?_⟩⟩
        have e24 : Same G2 G4 := gr.g.trans e4
        have p2 : postS X.K TG W B F G0 G2 D (match b r3 with
          | .ok .nx r2 => forF T b (ds.drop (i + 1)) r2
          | .ok .ct r2 => forF T b (ds.drop (i + 1)) r2
          | .ok .bk r2 => .ok .nx r2
          | x => x) := p2
        cases hb : b r3 with
        | st => rw [hb] at p2; exact p2
        | ex x r4 => rw [hb] at p2; exact fun G5 H5 s5 c dx e5 => p2 G5 H5 s5 c dx (e24.trans e5)
        | ok f r4 =>
          rw [hb] at p2
          cases f with
          | nx => exact fun G5 H5 s5 e5 i5 => ⟨G5, r4, e2.trans (e24.trans e5), i5, postS_mono (e24.trans e5) _ p2⟩
          | ct => exact fun G5 H5 s5 e5 i5 => ⟨G5, r4, e2.trans (e24.trans e5), i5, postS_mono (e24.trans e5) _ p2⟩
          | bk => exact fun G5 H5 s5 e5 i5 => p2 G5 H5 s5 (e24.trans e5) i5
          | rt x => exact fun G5 H5 s5 e5 i5 => p2 G5 H5 s5 (e24.trans e5) i5
    · have hl : i = ds.length := by omega
      subst hl
      rw [List.drop_length] at p2
      exact .inl ⟨ok.stop H2 (e2.trans i2.gh), p2 G2 H2 s' (.refl _) i2⟩
theorem ds_while (hp : PassesOwn (model X.prog X.w) X.A X.env X.xe) (hc : DT X TG W c t) (hb : DSs X TG W body b) : DS X TG W (.While c body [] pos) (sWhile t b) := PS_imp (ps_while hp hc hb) fun D s H q => by
  obtain ⟨B, F, G0, G, r, i, p⟩ := q
  refine ⟨fun m s H => ∃ G1 r1, SR X.K TG B F G0 G1 H r1 s ∧ postS X.K TG W B F G0 G1 D (whileF t b m r1), ⟨FUEL, G, r, i, p⟩, ?_⟩
  rintro m s1 H1 ⟨G1, r1, i1, p1⟩
  cases m with
  | zero => exact p1.elim
  | succ m =>
    have p1 : postS X.K TG W B F G0 G1 D (match t r1 with
      | .ok true r1 => match b r1 with
        | .ok .nx r2 => whileF t b m r2
        | .ok .ct r2 => whileF t b m r2
        | .ok .bk r2 => .ok .nx r2
        | x => x
      | .ok false r1 => .ok .nx r1
      | .ex e r1 => .ex e r1
      | .st => .st) := p1
    refine ⟨B, F, G0, G1, r1, i1, ?_⟩
    cases ht : t r1 with
    | st => rw [ht] at p1; exact p1
    | ex x r2 => rw [ht] at p1; exact fun G' H' c dx => p1 G' H' s1 c dx
    | ok k r2 =>
      rw [ht] at p1
      intro G2 H2 k' e2 i2 hk
      have hk : k = k' := hk
      subst hk
      cases k with
      | false => exact p1 G2 H2 s1 e2 i2
      | true =>
        refine ⟨fun s3 H3 => ∃ G3 r3, SR X.K TG B F G0 G3 H3 r3 s3 ∧ postS X.K TG W B F G0 G3 D (whileF t b m r3), fun s3 H3 h => ⟨m, Nat.lt_succ_self _, h⟩, B, F, G0, G2, r2, i2, ?_⟩
        have p1 : postS X.K TG W B F G0 G1 D (match b r2 with
          | .ok .nx r2 => whileF t b m r2
          | .ok .ct r2 => whileF t b m r2
          | .ok .bk r2 => .ok .nx r2
          | x => x) := p1
        cases hb : b r2 with
        | st => rw [hb] at p1; exact p1
        | ex x r4 => rw [hb] at p1; exact fun G5 H5 s5 c dx e5 => p1 G5 H5 s5 c dx (e2.trans e5)
        | ok f r4 =>
          rw [hb] at p1
          cases f with
          | nx => exact fun G5 H5 s5 e5 i5 => ⟨G5, r4, i5, postS_mono (e2.trans e5) _ p1⟩
          | ct => exact fun G5 H5 s5 e5 i5 => ⟨G5, r4, i5, postS_mono (e2.trans e5) _ p1⟩
          | bk => exact fun G5 H5 s5 e5 i5 => p1 G5 H5 s5 (e2.trans e5) i5
          | rt x => exact fun G5 H5 s5 e5 i5 => p1 G5 H5 s5 (e2.trans e5) i5
end
end TW

end
section
namespace TW
open PySem PySem.Spec PyProof.Rows L2

/-! ### list comprehensions -/
abbrev W0 : WX := fun _ _ _ _ => False
def wipeR (r : List Sl) : List Nat → List Sl
  | [] => r
  | v :: vs => (wipeR r vs).set v .un
/-- no name of these is given back -/
def noIo (r : List Sl) (own : List Nat) : Bool := own.all fun v => match r[v]? with
  | some y => !y.isIo
  | _ => true
def lcF (own : List Nat) (T : Tg) (tt : M Bool) (elt : M PyData) : List PyData → List PyData → M (List PyData)
  | [], acc => .ret acc
  | d :: ds, acc => fun r => if noIo r own then (match T d (wipeR r own) with
    | some r1 => match tt r1 with
      | .ok true r2 => match elt r2 with
        | .ok y r3 => lcF own T tt elt ds (acc ++ [y]) r3
        | _ => .st
      | .ok false r2 => lcF own T tt elt ds acc r2
      | _ => .st
    | none => .st) else .st
/-- behind a block: its own names as before -/
def unwipe (own : List Nat) (r0 r : List Sl) : List Sl := r.mapIdx fun k x => if own.contains k then (match r0[k]? with
  | some (.v d) => .v d
  | _ => .un) else x
def lcB (own : List Nat) (T : Tg) (tt : M Bool) (elt : M PyData) (ds : List PyData) : M (List PyData) := fun r =>
  if ds.length ≤ sizeLine then (match lcF own T tt elt ds [] r with
    | .ok acc r2 => if noIo r2 own then .ok acc (unwipe own r r2) else .st
    | _ => .st) else .st
def lLc (own : List Nat) (it : M (List PyData)) (T : Tg) (tt : M Bool) (elt : M PyData) : M (List PyData) := it.bind (lcB own T tt elt)
def lc2G (own own1 : List Nat) (T : Tg) (tt : M Bool) (it1 : M (List PyData)) (T1 : Tg) (tt1 : M Bool) (elt : M PyData) : List PyData → List PyData → M (List PyData)
  | [], acc => .ret acc
  | d :: ds, acc => fun r => if noIo r own then (match T d (wipeR r own) with
    | some r1 => match tt r1 with
      | .ok true r2 => match it1 r2 with
        | .ok es r3 => if acc.length + es.length ≤ sizeLine then (match lcF own1 T1 tt1 elt es acc r3 with
          | .ok acc2 r4 => lc2G own own1 T tt it1 T1 tt1 elt ds acc2 r4
          | _ => .st) else .st
        | _ => .st
      | .ok false r2 => lc2G own own1 T tt it1 T1 tt1 elt ds acc r2
      | _ => .st
    | none => .st) else .st
def lc2B (own own1 : List Nat) (T : Tg) (tt : M Bool) (it1 : M (List PyData)) (T1 : Tg) (tt1 : M Bool) (elt : M PyData) (ds : List PyData) : M (List PyData) := fun r =>
  match lc2G own own1 T tt it1 T1 tt1 elt ds [] r with
    | .ok acc r2 => if noIo r2 own then .ok acc (unwipe own r r2) else .st
    | _ => .st
def lLc2 (own own1 : List Nat) (it : M (List PyData)) (T : Tg) (tt : M Bool) (it1 : M (List PyData)) (T1 : Tg) (tt1 : M Bool) (elt : M PyData) : M (List PyData) := it.bind (lc2B own own1 T tt it1 T1 tt1 elt)
section
variable {K : PySem.W.Frag} {TG : TGx} {B : List (Nat × Addr)} {F G0 G H : Hp} {r : List Sl} {s : L2.St}
theorem wipeR_len (r : List Sl) : ∀ vs : List Nat, (wipeR r vs).length = r.length
  | [] => rfl
  | v :: vs => by unfold wipeR; rw [List.length_set, wipeR_len r vs]
/-- a name is forgotten -/
theorem SR.un (i : SR K TG B F G0 G H r s) {j : Nat} (hio : ∀ y, r[j]? = some y → y.isIo = false) : SR K TG B F G0 G H (r.set j .un) (s.set j none) := by
  by_cases hj : j < r.length
  · refine ⟨by rw [List.length_set, List.length_set]; exact i.len, i.gh, i.fh, i.g0, i.fg, i.gt, i.ft, i.tb, fun k e q => ?_, fun k es q => ?_, fun k l a es es' n q1 q2 e1 => ?_, fun p hp => ?_, fun k e q => ?_⟩
    · by_cases e : j = k
      · subst e
        rw [List.getElem?_set_self hj] at q
        cases q
      · rw [List.getElem?_set_ne e] at q ⊢
        exact i.vals k _ q
    · rcases own_set q with ⟨_, z⟩ | ⟨n, z⟩
      · cases z
      · rw [List.getElem?_set_ne n]
        exact i.owns k es z
    · rcases own_set q1 with ⟨_, z⟩ | ⟨n1, z1⟩
      · cases z
      · rcases own_set q2 with ⟨_, z⟩ | ⟨n2, z2⟩
        · cases z
        · rw [List.getElem?_set_ne n1] at e1
          rw [List.getElem?_set_ne n2]
          exact i.sep k l a es es' n z1 z2 e1
    · obtain ⟨⟨es, e1, e3⟩, e2⟩ := i.ios p hp
      have n : j ≠ p.1 := fun e => by rw [hio es (by rw [e]; exact e1)] at e3; cases e3
      rw [List.getElem?_set_ne n, List.getElem?_set_ne n]
      exact ⟨⟨es, e1, e3⟩, e2⟩
    · by_cases z : j = k
      · subst z; rw [List.getElem?_set_self hj] at q; cases q
      · rw [List.getElem?_set_ne z] at q ⊢
        exact i.evs k e q
  · rw [List.set_eq_of_length_le (by omega), List.set_eq_of_length_le (by rw [← i.len]; omega)]
    exact i
theorem wipeR_io {r : List Sl} {j : Nat} {y : Sl} (hy : y.isIo = true) : ∀ {vs : List Nat}, (wipeR r vs)[j]? = some y → r[j]? = some y
  | [], h => h
  | v :: vs, h => by
    unfold wipeR at h
    by_cases e : v = j
    · subst e
      rw [List.getElem?_set_self'] at h
      cases q : (wipeR r vs)[v]? with
      | none => rw [q] at h; simp at h
      | some x => rw [q] at h; cases h; cases hy
    · rw [List.getElem?_set_ne e] at h
      exact wipeR_io hy h
theorem SR.wipe (i : SR K TG B F G0 G H r s) : ∀ {vs : List Nat}, noIo r vs = true → SR K TG B F G0 G H (wipeR r vs) (L2.wipe s vs)
  | [], _ => i
  | v :: vs, h => by
    have h : ((match r[v]? with | some y => !y.isIo | _ => true) && noIo r vs) = true := h
    rw [Bool.and_eq_true] at h
    refine (SR.wipe i h.2).un fun y e => ?_
    cases hy : y.isIo with
    | false => rfl
    | true =>
      have e := wipeR_io hy e
      rw [e] at h
      have h1 : (!y.isIo) = true := h.1
      rw [hy] at h1
      cases h1
theorem unw_at {vs : List Nat} {r0 r : List Sl} {k : Nat} {x : Sl} (e : (TW.unwipe vs r0 r)[k]? = some x) : (k ∈ vs ∧ x.own = none ∧ (∀ d, x = .v d → r0[k]? = some (.v d)) ∧ ∀ e, x ≠ .ev e) ∨ (k ∉ vs ∧ r[k]? = some x) := by
  unfold TW.unwipe at e
  rw [List.getElem?_mapIdx] at e
  cases q : r[k]? with
  | none => rw [q] at e; cases e
  | some y =>
    rw [q] at e
    have e : some (if vs.contains k then (match r0[k]? with | some (.v d) => Sl.v d | _ => .un) else y) = some x := e
    by_cases hm : k ∈ vs
    · have hc : vs.contains k = true := by simpa using hm
      rw [if_pos hc] at e
      refine .inl ⟨hm, ?_⟩
      split at e
      · rename_i d hd; cases e; exact ⟨rfl, fun d' z => (by cases z; exact hd), fun _ z => by cases z⟩
      · cases e; exact ⟨rfl, fun d' z => (by cases z), fun _ z => by cases z⟩
    · have hc : ¬ vs.contains k = true := by simpa using hm
      rw [if_neg hc] at e
      cases e
      exact .inr ⟨hm, rfl⟩
theorem unw_out {vs : List Nat} {r0 r : List Sl} {k : Nat} (h : k ∉ vs) : (TW.unwipe vs r0 r)[k]? = r[k]? := by
  unfold TW.unwipe
  rw [List.getElem?_mapIdx]
  have hc : vs.contains k = false := by simpa using h
  cases r[k]? with
  | none => rfl
  | some x => simp [h]
theorem unw_own {vs : List Nat} {r0 r : List Sl} {k : Nat} {es : Ow} (e : (TW.unwipe vs r0 r)[k]?.bind Sl.own = some es) : k ∉ vs ∧ r[k]?.bind Sl.own = some es := by
  cases q : (TW.unwipe vs r0 r)[k]? with
  | none => rw [q] at e; cases e
  | some x =>
    rw [q] at e
    rcases unw_at q with ⟨_, z, _⟩ | ⟨z1, z2⟩
    · have e : x.own = some es := e
      rw [z] at e; cases e
    · exact ⟨z1, by rw [z2]; exact e⟩
theorem noIo_at {r : List Sl} {vs : List Nat} (h : noIo r vs = true) {k : Nat} {y : Sl} (hk : r[k]? = some y) (hy : y.isIo = true) : k ∉ vs := fun m => by
  have := (List.all_eq_true.mp h) k m
  rw [hk] at this
  have this : (!y.isIo) = true := this
  rw [hy] at this
  cases this
/-- behind the block -/
theorem SR.unwipe {r0 : List Sl} {vs : List Nat} {s2 : L2.St} (i : SR K TG B F G0 G H r s2) (l : Like vs s s2) (hio : noIo r vs = true) (h : ∀ (v : Nat) (d : PyData), r0[v]? = some (Sl.v d) → ∃ u, s[v]? = some (some u) ∧ Rv K G d u) : SR K TG B F G0 G H (TW.unwipe vs r0 r) s := by
  refine ⟨by unfold TW.unwipe; rw [List.length_mapIdx]; exact i.len.trans l.1, i.gh, i.fh, i.g0, i.fg, i.gt, i.ft, i.tb, fun k d q => ?_, fun k es q => ?_, fun k l' a es es' n q1 q2 e1 => ?_, fun p hp => ?_, fun k e q => ?_⟩
  · rcases unw_at q with ⟨_, _, z, _⟩ | ⟨z1, z2⟩
    · exact h k d (z d rfl)
    · obtain ⟨u, h1, h2⟩ := i.vals k d z2
      rw [l.2 k z1] at h1
      exact ⟨u, h1, h2⟩
  · obtain ⟨n, z⟩ := unw_own q
    obtain ⟨a, xs, h1, h2⟩ := i.owns k es z
    rw [l.2 k n] at h1
    exact ⟨a, xs, h1, h2⟩
  · obtain ⟨n1, z1⟩ := unw_own q1
    obtain ⟨n2, z2⟩ := unw_own q2
    have q := i.sep k l' a es es' n z1 z2
    rw [l.2 k n1, l.2 l' n2] at q
    exact q e1
  · obtain ⟨⟨es, e1, e3⟩, e2⟩ := i.ios p hp
    have e4 := noIo_at hio e1 e3
    rw [l.2 p.1 e4] at e2
    exact ⟨⟨es, by rw [unw_out e4]; exact e1, e3⟩, e2⟩
  · rcases unw_at q with ⟨_, _, _, z⟩ | ⟨z1, z2⟩
    · exact absurd rfl (z e)
    · have w := i.evs k e z2
      rw [l.2 k z1] at w
      exact w
theorem wipe_set {s s' : L2.St} {vs : List Nat} (l : Like vs s s') : L2.wipe s' vs = L2.wipe s vs := by
  refine List.ext_getElem? fun k => ?_
  have at_ : ∀ (t : L2.St) (vs : List Nat), k ∈ vs → k < t.length → (L2.wipe t vs)[k]? = some none := fun t vs => by
    induction vs with
    | nil => intro h; cases h
    | cons v vs ih =>
      intro h hk
      unfold L2.wipe
      by_cases e : v = k
      · subst e; exact List.getElem?_set_self (by rw [L2.wipe_length]; exact hk)
      · rw [List.getElem?_set_ne e]
        exact ih (by rcases List.mem_cons.mp h with z | z; exact absurd z.symm e; exact z) hk
  by_cases hm : k ∈ vs
  · by_cases hk : k < s.length
    · rw [at_ s vs hm hk, at_ s' vs hm (by rw [l.1]; exact hk)]
    · rw [List.getElem?_eq_none (by rw [L2.wipe_length, l.1]; omega), List.getElem?_eq_none (by rw [L2.wipe_length]; omega)]
  · rw [L2.wipe_out hm, L2.wipe_out hm, l.2 k hm]
theorem wipe_self {s : L2.St} {vs : List Nat} : Like vs s (L2.wipe s vs) := ⟨L2.wipe_length _ _, fun j h => L2.wipe_out h⟩
theorem Like.sub {ns ms : List Nat} {s t : L2.St} (l : Like ns s t) (h : ∀ i ∈ ns, i ∈ ms) : Like ms s t := ⟨l.1, fun j n => l.2 j fun m => n (h j m)⟩
theorem Like.symm {ns : List Nat} {s t : L2.St} (l : Like ns s t) : Like ns t s := ⟨l.1.symm, fun j n => (l.2 j n).symm⟩
/-- a new object, held by the frame: a block's list -/
theorem SR.hold {D : Addr} (i : SR K TG B F G0 G H r s) (hD : H D = none) : SR K TG B (upd F D (.lst [])) G0 G (upd H D (.lst [])) r s := by
  have gD := none_sub i.gh hD
  refine ⟨i.len, i.gh.trans (same_new hD), fun b u q => ?_, i.g0, fun b u q => ?_, i.gt, fun b ps q => ?_, fun P hP => tab_same (same_new hD) (i.tb P hP), i.vals, fun j ds q => ?_, i.sep, i.ios, i.evs⟩
  · by_cases z : b = D
    · subst z; rw [upd_same] at q ⊢; exact q
    · rw [upd_ne z] at q ⊢; exact i.fh _ _ q
  · have z : b ≠ D := fun e => by subst e; rw [gD] at q; cases q
    rw [upd_ne z]
    exact i.fg b u q
  · by_cases z : b = D
    · subst z; rw [upd_same] at q; cases q
    · rw [upd_ne z] at q; exact i.ft _ _ q
  · obtain ⟨a, xs, h1, h2, h3, h4, h5⟩ := i.owns j ds q
    have z : a ≠ D := fun e => by subst e; rw [hD] at h2; cases h2
    exact ⟨a, xs, h1, by rw [upd_ne z]; exact h2, h3, h4, by rw [upd_ne z]; exact h5⟩
/-- the list at D of the frame, changed -/
theorem SR.held {D : Addr} {xs ys : List V} (i : SR K TG B (upd F D (.lst xs)) G0 G H r s) (gD : G D = none) : SR K TG B (upd F D (.lst ys)) G0 G (upd H D (.lst ys)) r s := by
  have hD : H D = some (.lst xs) := i.fh _ _ upd_same
  refine ⟨i.len, fun b u q => ?_, fun b u q => ?_, i.g0, fun b u q => ?_, i.gt, fun b ps q => ?_, fun P hP => ?_, i.vals, fun j ds q => ?_, i.sep, i.ios, i.evs⟩
  · have z : b ≠ D := fun e => by subst e; rw [gD] at q; cases q
    rw [upd_ne z]
    exact i.gh _ _ q
  · by_cases z : b = D
    · subst z; rw [upd_same] at q ⊢; exact q
    · rw [upd_ne z] at q ⊢; exact i.fh _ _ (by rw [upd_ne z]; exact q)
  · have z : b ≠ D := fun e => by subst e; rw [gD] at q; cases q
    have := i.fg b u q
    rwa [upd_ne z] at this ⊢
  · by_cases z : b = D
    · subst z; rw [upd_same] at q; cases q
    · rw [upd_ne z] at q; exact i.ft b ps (by rw [upd_ne z]; exact q)
  · exact (i.tb P hP).upd hD (fun _ e => by cases e) (fun _ => by first | exact codeO_lst | exact codeO_dK | (intro e; unfold LamX.CodeO at e; cases e))
  · obtain ⟨a, zs, h1, h2, h3, h4, h5⟩ := i.owns j ds q
    have z : a ≠ D := fun e => by subst e; rw [upd_same] at h5; cases h5
    rw [upd_ne z] at h5
    exact ⟨a, zs, h1, by rw [upd_ne z]; exact h2, h3, h4, by rw [upd_ne z]; exact h5⟩
/-- the frame as it was -/
theorem SR.looseA {D : Addr} {o : HO} (i : SR K TG B (upd F D o) G0 G H r s) (fD : F D = none) : SR K TG B F G0 G H r s := by
  have sub : ∀ b u, F b = some u → upd F D o b = some u := fun b u q => by
    rw [upd_ne (ne_of_none q fD)]
    exact q
  refine ⟨i.len, i.gh, fun b u q => i.fh _ _ (sub b u q), i.g0, fun b u q => ?_, i.gt, fun b ps q => i.ft b ps (sub _ _ q), i.tb, i.vals, fun j ds q => ?_, i.sep, i.ios, i.evs⟩
  · refine (i.fg b u q).imp (fun z => ?_) id
    cases w : F b with
    | none => rfl
    | some y => rw [sub b y w] at z; cases z
  · obtain ⟨a, zs, h1, h2, h3, h4, h5⟩ := i.owns j ds q
    refine ⟨a, zs, h1, h2, h3, h4, ?_⟩
    cases w : F a with
    | none => rfl
    | some y => rw [sub a y w] at h5; cases h5
theorem SR.loose {D : Addr} {xs : List V} (i : SR K TG B (upd F D (.lst xs)) G0 G H r s) (fD : F D = none) : SR K TG B F G0 G H r s := i.looseA fD
/-- D belongs to no part of the values -/
theorem SR.gnone {D : Addr} {o : HO} (i : SR K TG B (upd F D o) G0 G H r s) (h0 : G0 D = none) : G D = none := by
  cases q : G D with
  | none => rfl
  | some u =>
    rcases i.fg D u q with z | z
    · rw [upd_same] at z; cases z
    · rw [h0] at z; cases z
end
section
variable {K : PySem.W.Frag} {TG : TGx} {W : WX} {it it1 : M (List PyData)} {T T1 : Tg} {ns ns1 : List Nat} {tt tt1 : M Bool} {elt : M PyData} {own own1 : List Nat}
theorem lcF_cons {d : PyData} {ds acc : List PyData} {r : List Sl} : lcF own T tt elt (d :: ds) acc r = if noIo r own then (match T d (wipeR r own) with
    | some r1 => match tt r1 with
      | .ok true r2 => match elt r2 with
        | .ok y r3 => lcF own T tt elt ds (acc ++ [y]) r3
        | _ => .st
      | .ok false r2 => lcF own T tt elt ds acc r2
      | _ => .st
    | none => .st) else .st := rfl
theorem lcF_grows : ∀ (ds acc : List PyData) (r : List Sl) (out : List PyData) (r' : List Sl), lcF own T tt elt ds acc r = .ok out r' → out.length ≤ acc.length + ds.length
  | [], acc, r, out, r', h => by cases h; simp
  | d :: ds, acc, r, out, r', h => by
    rw [lcF_cons] at h
    split at h
    · split at h
      · split at h
        · split at h
          · have := lcF_grows _ _ _ _ _ h; simp at this ⊢; omega
          · cases h
        · have := lcF_grows _ _ _ _ _ h; simp at this ⊢; omega
        · cases h
      · cases h
    · cases h
/-- one turn of such a loop, whatever comes then: Pv holds behind it -/
theorem lc_turn {B : List (Nat × Addr)} {F G0 G G1 H H1 : Hp} {r : List Sl} {s : L2.St} {D : Addr} {xs : List V} {acc ds : List PyData} {d : PyData} {x : V} {Nx : Hp → Prop} (k : Res (List PyData) → Prop)
    (hns : ∀ i ∈ ns, i ∈ own) (i : SR K TG B (upd F D (.lst xs)) G0 G H r s) (ha : RvA K G acc xs) (h0 : G0 D = none) (hz : acc.length < sizeLine)
    (gr : Grow G H G1 H1) (rv : Rv K G1 d x) (hk : k (lcF own T tt elt (d :: ds) acc r)) (hst : ¬ k .st)
    (hN : ∀ G2 H2 r2 s2 ys acc2, Same G G2 → Like own s s2 → SR K TG B (upd F D (.lst ys)) G0 G2 H2 r2 s2 → RvA K G2 acc2 ys → acc2.length ≤ acc.length + 1 → k (lcF own T tt elt ds acc2 r2) → Nx H2) :
    rdG K TG ns T x (L2.wipe s own) H1 fun σ2 H2 => L2.wipe σ2 own = L2.wipe s own ∧ rd K TG W0 RB tt σ2 H2 fun b H3 =>
      if b = true then rd K TG W0 (RE K) elt σ2 H3 fun y H4 => ∃ acc, H4 D = some (.lst acc) ∧ acc.length < sizeLine ∧ Nx (upd H4 D (.lst (acc ++ [y]))) else Nx H3 := by
  rw [lcF_cons] at hk
  split at hk
  · rename_i hio
    cases ht : T d (wipeR r own) with
    | none => rw [ht] at hk; exact absurd hk hst
    | some r1 =>
      rw [ht] at hk
      refine ⟨B, _, G0, G1, _, d, r1, (i.wipe hio).grow gr, rv, ht, fun G2 H2 s2 e2 i2 l2 => ?_⟩
      have l2 : Like own (L2.wipe s own) s2 := l2.sub hns
      have lk : Like own s s2 := ⟨l2.1.trans wipe_self.1, fun j n => (l2.2 j n).trans (wipe_self.2 j n)⟩
      refine ⟨wipe_set lk, B, _, G0, G2, r1, i2, ?_⟩
      have hk : k (match tt r1 with
        | .ok true r2 => match elt r2 with
          | .ok y r3 => lcF own T tt elt ds (acc ++ [y]) r3
          | _ => .st
        | .ok false r2 => lcF own T tt elt ds acc r2
        | _ => .st) := hk
      have e02 : Same G G2 := gr.g.trans e2
      cases hb : tt r1 with
      | st => rw [hb] at hk; exact absurd hk hst
      | ex _ _ => rw [hb] at hk; exact absurd hk hst
      | ok b r2 =>
        rw [hb] at hk
        intro G3 H3 b' e3 i3 hbb
        have hbb : b = b' := hbb
        subst hbb
        cases b with
        | false => exact hN G3 H3 r2 s2 xs acc (e02.trans e3) lk i3 (RvA.mono (e02.trans e3) _ _ ha) (by omega) hk
        | true =>
          have hk : k (match elt r2 with
            | .ok y r3 => lcF own T tt elt ds (acc ++ [y]) r3
            | _ => .st) := hk
          refine ⟨B, _, G0, G3, r2, i3, ?_⟩
          cases he : elt r2 with
          | st => rw [he] at hk; exact absurd hk hst
          | ex _ _ => rw [he] at hk; exact absurd hk hst
          | ok y r3 =>
            rw [he] at hk
            intro G4 H4 v e4 i4 hv
            have e04 := (e02.trans e3).trans e4
            refine ⟨xs, i4.fh _ _ upd_same, by rw [ha.len]; exact hz, ?_⟩
            exact hN G4 _ r3 s2 (xs ++ [v]) (acc ++ [y]) e04 lk (i4.held (i4.gnone h0)) ((RvA.mono e04 _ _ ha).app (.one hv)) (by simp) hk
  · exact absurd hk hst
theorem rdL_lc {s : L2.St} {H : Hp} {Q : VK} (hns : ∀ i ∈ ns, i ∈ own) (h : rdL K TG W (lLc own it T tt elt) s H Q) :
    tLc (rdI K TG W it) (rdG K TG ns T) (rd K TG W0 RB tt) (rd K TG W0 (RE K) elt) own s H Q := by
  obtain ⟨B, F, G0, G, z, i, p⟩ := h
  refine ⟨B, F, G0, G, z, i, ?_⟩
  unfold lLc M.bind at p
  cases hr : it z with
  | st => rw [hr] at p; exact p
  | ex x r1 => rw [hr] at p; exact p
  | ok ds r1 =>
    rw [hr] at p
    have p : postL K TG W B F G0 G s Q (lcB own T tt elt ds r1) := p
    unfold lcB at p
    split at p
    · rename_i hz
      intro G1 H1 J e1 i1 ok D hD
      have h0 : G0 D = none := none_sub (i1.g0.trans i1.gh) hD
      have fD : F D = none := none_sub i1.fh hD
      let k : Res (List PyData) → Prop := fun x => ∃ out r2, x = .ok out r2 ∧ noIo r2 own = true ∧ ∀ G' H' a, Same G G' → SR K TG B F G0 G' H' (unwipe own r1 r2) s → Free K B F G' H' (unwipe own r1 r2) s a out → Q (.ref a) H'
      have hk : k (lcF own T tt elt ds [] r1) := by
        cases hq : lcF own T tt elt ds [] r1 with
        | ok acc r2 =>
          rw [hq] at p
          have p : postL K TG W B F G0 G s Q (if noIo r2 own then .ok acc (unwipe own r1 r2) else .st) := p
          split at p
          · rename_i hio; exact ⟨acc, r2, rfl, hio, p⟩
          · exact p.elim
        | ex x r2 => rw [hq] at p; exact p.elim
        | st => rw [hq] at p; exact p.elim
      have hst : ¬ k .st := fun ⟨_, _, e, _⟩ => by cases e
      refine ⟨fun i m H2 => m = ds.length - i ∧ i ≤ ds.length ∧ ∃ G2 r2 s2 xs acc, Same G1 G2 ∧ Like own s s2 ∧ SR K TG B (upd F D (.lst xs)) G0 G2 H2 r2 s2 ∧ RvA K G2 acc xs ∧ acc.length ≤ i ∧ k (lcF own T tt elt (ds.drop i) acc r2),
        ⟨ds.length, rfl, Nat.zero_le _, G1, r1, s, [], [], .refl _, .refl _ _, i1.hold hD, rfl, Nat.le_refl _, hk⟩, ?_⟩
      rintro i m H2 ⟨rfl, hi, G2, r2, s2, xs, acc, e2, l2, i2, ha, hl, hk⟩
      have w2 : L2.wipe s2 own = L2.wipe s own := wipe_set l2
      by_cases hlt : i < ds.length
      · refine .inr ⟨ok.go i H2 (e2.trans i2.gh) hlt, fun H3 => ∃ G2 r2 s2 xs acc, Same G1 G2 ∧ Like own s s2 ∧ SR K TG B (upd F D (.lst xs)) G0 G2 H3 r2 s2 ∧ RvA K G2 acc xs ∧ acc.length ≤ i + 1 ∧ k (lcF own T tt elt (ds.drop (i + 1)) acc r2),
          fun H3 h3 => ⟨ds.length - (i + 1), by omega, rfl, hlt, h3⟩, fun x H3 y => ?_⟩
        obtain ⟨d, G3, hd, gr, rv⟩ := ok.yld i H2 x H3 G2 e2 i2.gh hlt y
        have hdrop : ds.drop i = d :: ds.drop (i + 1) := by
          rw [List.drop_eq_getElem_cons hlt]
          rw [List.getElem?_eq_getElem hlt] at hd
          rw [Option.some.inj hd]
        rw [hdrop] at hk
        rw [← w2]
        exact lc_turn k hns i2 ha h0 (by omega) gr rv hk hst fun G4 H4 r4 s4 ys acc4 e4 l4 i4 ha4 hl4 hk4 => ⟨G4, r4, s4, ys, acc4, e2.trans e4, ⟨l4.1.trans l2.1, fun j n => (l4.2 j n).trans (l2.2 j n)⟩, i4, ha4, by omega, hk4⟩
      · have hl : i = ds.length := by omega
        subst hl
        rw [List.drop_length] at hk
        obtain ⟨out, r3, ho, hio, hp⟩ := hk
        cases ho
        refine .inl ⟨ok.stop H2 (e2.trans i2.gh), ?_⟩
        have i3 : SR K TG B F G0 G2 H2 r2 s2 := i2.loose fD
        refine hp G2 H2 D (e1.trans e2) (i3.unwipe l2 hio fun v d q => ?_) ⟨⟨xs, i2.fh _ _ upd_same, ha⟩, i2.gnone h0, fD, fun j es q => ?_⟩
        · obtain ⟨u, h1, h2⟩ := i1.vals v d q
          exact ⟨u, h1, Rv.mono e2 _ _ h2⟩
        · obtain ⟨n, q⟩ := unw_own q
          obtain ⟨a, zs, h1, h2, h3, h4, h5⟩ := i2.owns j es q
          rw [l2.2 j n] at h1
          rw [h1]
          intro e
          cases e
          rw [upd_same] at h5
          cases h5
    · exact p.elim
theorem lc2G_cons {d : PyData} {ds acc : List PyData} {r : List Sl} : lc2G own own1 T tt it1 T1 tt1 elt (d :: ds) acc r = if noIo r own then (match T d (wipeR r own) with
    | some r1 => match tt r1 with
      | .ok true r2 => match it1 r2 with
        | .ok es r3 => if acc.length + es.length ≤ sizeLine then (match lcF own1 T1 tt1 elt es acc r3 with
          | .ok acc2 r4 => lc2G own own1 T tt it1 T1 tt1 elt ds acc2 r4
          | _ => .st) else .st
        | _ => .st
      | .ok false r2 => lc2G own own1 T tt it1 T1 tt1 elt ds acc r2
      | _ => .st
    | none => .st) else .st := rfl
theorem lc2_turn {B : List (Nat × Addr)} {F G0 G G1 H H1 : Hp} {r : List Sl} {s : L2.St} {D : Addr} {xs : List V} {acc ds : List PyData} {d : PyData} {x : V} {Nx : Hp → Prop} (k : Res (List PyData) → Prop)
    (hns : ∀ i ∈ ns, i ∈ own) (hns1 : ∀ i ∈ ns1, i ∈ own1) (hsub : ∀ i ∈ own1, i ∈ own) (i : SR K TG B (upd F D (.lst xs)) G0 G H r s) (ha : RvA K G acc xs) (h0 : G0 D = none)
    (gr : Grow G H G1 H1) (rv : Rv K G1 d x) (hk : k (lc2G own own1 T tt it1 T1 tt1 elt (d :: ds) acc r)) (hst : ¬ k .st)
    (hN : ∀ G2 H2 r2 s2 ys acc2, Same G G2 → Like own s s2 → SR K TG B (upd F D (.lst ys)) G0 G2 H2 r2 s2 → RvA K G2 acc2 ys → k (lc2G own own1 T tt it1 T1 tt1 elt ds acc2 r2) → Nx H2) :
    rdG K TG ns T x (L2.wipe s own) H1 fun σ2 H2 => L2.wipe σ2 own = L2.wipe s own ∧ rd K TG W0 RB tt σ2 H2 fun b H3 =>
    if b = true then rdI K TG W0 it1 σ2 H3 fun J1 H4 => ∃ W1 : Nat → Nat → Hp → Prop, (∃ m, W1 0 m H4) ∧ ∀ j k H, W1 j k H →
      (J1.stop j H ∧ Nx H) ∨ (J1.go j H ∧ ∃ Nx1 : Hp → Prop, (∀ H', Nx1 H' → ∃ k', k' < k ∧ W1 (j + 1) k' H') ∧ ∀ x H', J1.yld j H x H' → rdG K TG ns1 T1 x (L2.wipe σ2 own1) H' fun σ3 H5 => L2.wipe σ3 own1 = L2.wipe σ2 own1 ∧ rd K TG W0 RB tt1 σ3 H5 fun b H6 =>
        if b = true then rd K TG W0 (RE K) elt σ3 H6 fun y H7 => ∃ acc, H7 D = some (.lst acc) ∧ acc.length < sizeLine ∧ Nx1 (upd H7 D (.lst (acc ++ [y]))) else Nx1 H6)
    else Nx H3 := by
  rw [lc2G_cons] at hk
  split at hk
  · rename_i hio
    cases ht : T d (wipeR r own) with
    | none => rw [ht] at hk; exact absurd hk hst
    | some r1 =>
      rw [ht] at hk
      refine ⟨B, _, G0, G1, _, d, r1, (i.wipe hio).grow gr, rv, ht, fun G2 H2 s2 e2 i2 l2 => ?_⟩
      have l2 : Like own (L2.wipe s own) s2 := l2.sub hns
      have lk : Like own s s2 := ⟨l2.1.trans wipe_self.1, fun j n => (l2.2 j n).trans (wipe_self.2 j n)⟩
      refine ⟨wipe_set lk, B, _, G0, G2, r1, i2, ?_⟩
      have hk : k (match tt r1 with
        | .ok true r2 => match it1 r2 with
          | .ok es r3 => if acc.length + es.length ≤ sizeLine then (match lcF own1 T1 tt1 elt es acc r3 with
            | .ok acc2 r4 => lc2G own own1 T tt it1 T1 tt1 elt ds acc2 r4
            | _ => .st) else .st
          | _ => .st
        | .ok false r2 => lc2G own own1 T tt it1 T1 tt1 elt ds acc r2
        | _ => .st) := hk
      have e02 : Same G G2 := gr.g.trans e2
      cases hb : tt r1 with
      | st => rw [hb] at hk; exact absurd hk hst
      | ex _ _ => rw [hb] at hk; exact absurd hk hst
      | ok b r2 =>
        rw [hb] at hk
        intro G3 H3 b' e3 i3 hbb
        have hbb : b = b' := hbb
        subst hbb
        cases b with
        | false => exact hN G3 H3 r2 s2 xs acc (e02.trans e3) lk i3 (RvA.mono (e02.trans e3) _ _ ha) hk
        | true =>
          have hk : k (match it1 r2 with
            | .ok es r3 => if acc.length + es.length ≤ sizeLine then (match lcF own1 T1 tt1 elt es acc r3 with
              | .ok acc2 r4 => lc2G own own1 T tt it1 T1 tt1 elt ds acc2 r4
              | _ => .st) else .st
            | _ => .st) := hk
          refine ⟨B, _, G0, G3, r2, i3, ?_⟩
          cases he : it1 r2 with
          | st => rw [he] at hk; exact absurd hk hst
          | ex _ _ => rw [he] at hk; exact absurd hk hst
          | ok es r3 =>
            rw [he] at hk
            have hk : k (if acc.length + es.length ≤ sizeLine then (match lcF own1 T1 tt1 elt es acc r3 with
              | .ok acc2 r4 => lc2G own own1 T tt it1 T1 tt1 elt ds acc2 r4
              | _ => .st) else .st) := hk
            split at hk
            · rename_i hz
              intro G4 H4 J e4 i4 ok
              have e04 : Same G G4 := (e02.trans e3).trans e4
              let k1 : Res (List PyData) → Prop := fun x => ∃ out r2, x = .ok out r2 ∧ k (lc2G own own1 T tt it1 T1 tt1 elt ds out r2)
              have hk1 : k1 (lcF own1 T1 tt1 elt es acc r3) := by
                cases hq : lcF own1 T1 tt1 elt es acc r3 with
                | ok acc2 r4 => rw [hq] at hk; exact ⟨acc2, r4, rfl, hk⟩
                | ex x r2 => rw [hq] at hk; exact absurd hk hst
                | st => rw [hq] at hk; exact absurd hk hst
              have hst1 : ¬ k1 .st := fun ⟨_, _, e, _⟩ => by cases e
              refine ⟨fun j m H5 => m = es.length - j ∧ j ≤ es.length ∧ ∃ G5 r5 s5 xs5 acc5, Same G4 G5 ∧ Like own1 s2 s5 ∧ SR K TG B (upd F D (.lst xs5)) G0 G5 H5 r5 s5 ∧ RvA K G5 acc5 xs5 ∧ acc5.length ≤ acc.length + j ∧ k1 (lcF own1 T1 tt1 elt (es.drop j) acc5 r5),
                ⟨es.length, rfl, Nat.zero_le _, G4, r3, s2, xs, acc, .refl _, .refl _ _, i4, RvA.mono e04 _ _ ha, Nat.le_refl _, hk1⟩, ?_⟩
              rintro j m H5 ⟨rfl, hj, G5, r5, s5, xs5, acc5, e5, l5, i5, ha5, hl5, hk5⟩
              by_cases hlt : j < es.length
              · refine .inr ⟨ok.go j H5 (e5.trans i5.gh) hlt, fun H6 => ∃ G5 r5 s5 xs5 acc5, Same G4 G5 ∧ Like own1 s2 s5 ∧ SR K TG B (upd F D (.lst xs5)) G0 G5 H6 r5 s5 ∧ RvA K G5 acc5 xs5 ∧ acc5.length ≤ acc.length + (j + 1) ∧ k1 (lcF own1 T1 tt1 elt (es.drop (j + 1)) acc5 r5),
                  fun H6 h6 => ⟨es.length - (j + 1), by omega, rfl, hlt, h6⟩, fun x H6 y => ?_⟩
                obtain ⟨d', G6, hd, gr6, rv6⟩ := ok.yld j H5 x H6 G5 e5 i5.gh hlt y
                have hdrop : es.drop j = d' :: es.drop (j + 1) := by
                  rw [List.drop_eq_getElem_cons hlt]
                  rw [List.getElem?_eq_getElem hlt] at hd
                  rw [Option.some.inj hd]
                rw [hdrop] at hk5
                rw [← wipe_set l5]
                exact lc_turn k1 hns1 i5 ha5 h0 (by omega) gr6 rv6 hk5 hst1 fun G7 H7 r7 s7 ys acc7 e7 l7 i7 ha7 hl7 hk7 => ⟨G7, r7, s7, ys, acc7, e5.trans e7, ⟨l7.1.trans l5.1, fun j n => (l7.2 j n).trans (l5.2 j n)⟩, i7, ha7, by omega, hk7⟩
              · have hl : j = es.length := by omega
                subst hl
                rw [List.drop_length] at hk5
                obtain ⟨out, r6, ho, hp⟩ := hk5
                cases ho
                have l5' : Like own s2 s5 := l5.sub hsub
                exact .inl ⟨ok.stop H5 (e5.trans i5.gh), hN G5 H5 r5 s5 xs5 acc5 (e04.trans e5) ⟨l5'.1.trans lk.1, fun j n => (l5'.2 j n).trans (lk.2 j n)⟩ i5 ha5 hp⟩
            · exact absurd hk hst
  · exact absurd hk hst
theorem rdL_lc2 {s : L2.St} {H : Hp} {Q : VK} (hns : ∀ i ∈ ns, i ∈ own) (hns1 : ∀ i ∈ ns1, i ∈ own1) (hsub : ∀ i ∈ own1, i ∈ own) (h : rdL K TG W (lLc2 own own1 it T tt it1 T1 tt1 elt) s H Q) :
    tLc2 (rdI K TG W it) (rdG K TG ns T) (rd K TG W0 RB tt) (rdI K TG W0 it1) (rdG K TG ns1 T1) (rd K TG W0 RB tt1) (rd K TG W0 (RE K) elt) own own1 s H Q := by
  obtain ⟨B, F, G0, G, z, i, p⟩ := h
  refine ⟨B, F, G0, G, z, i, ?_⟩
  unfold lLc2 M.bind at p
  cases hr : it z with
  | st => rw [hr] at p; exact p
  | ex x r1 => rw [hr] at p; exact p
  | ok ds r1 =>
    rw [hr] at p
    have p : postL K TG W B F G0 G s Q (lc2B own own1 T tt it1 T1 tt1 elt ds r1) := p
    unfold lc2B at p
    intro G1 H1 J e1 i1 ok D hD
    have h0 : G0 D = none := none_sub (i1.g0.trans i1.gh) hD
    have fD : F D = none := none_sub i1.fh hD
    let k : Res (List PyData) → Prop := fun x => ∃ out r2, x = .ok out r2 ∧ noIo r2 own = true ∧ ∀ G' H' a, Same G G' → SR K TG B F G0 G' H' (unwipe own r1 r2) s → Free K B F G' H' (unwipe own r1 r2) s a out → Q (.ref a) H'
    have hk : k (lc2G own own1 T tt it1 T1 tt1 elt ds [] r1) := by
      cases hq : lc2G own own1 T tt it1 T1 tt1 elt ds [] r1 with
      | ok acc r2 =>
        rw [hq] at p
        have p : postL K TG W B F G0 G s Q (if noIo r2 own then .ok acc (unwipe own r1 r2) else .st) := p
        split at p
        · rename_i hio; exact ⟨acc, r2, rfl, hio, p⟩
        · exact p.elim
      | ex x r2 => rw [hq] at p; exact p.elim
      | st => rw [hq] at p; exact p.elim
    have hst : ¬ k .st := fun ⟨_, _, e, _⟩ => by cases e
    refine ⟨fun i m H2 => m = ds.length - i ∧ i ≤ ds.length ∧ ∃ G2 r2 s2 xs acc, Same G1 G2 ∧ Like own s s2 ∧ SR K TG B (upd F D (.lst xs)) G0 G2 H2 r2 s2 ∧ RvA K G2 acc xs ∧ k (lc2G own own1 T tt it1 T1 tt1 elt (ds.drop i) acc r2),
      ⟨ds.length, rfl, Nat.zero_le _, G1, r1, s, [], [], .refl _, .refl _ _, i1.hold hD, rfl, hk⟩, ?_⟩
    rintro i m H2 ⟨rfl, hi, G2, r2, s2, xs, acc, e2, l2, i2, ha, hk⟩
    have w2 : L2.wipe s2 own = L2.wipe s own := wipe_set l2
    by_cases hlt : i < ds.length
    · refine .inr ⟨ok.go i H2 (e2.trans i2.gh) hlt, fun H3 => ∃ G2 r2 s2 xs acc, Same G1 G2 ∧ Like own s s2 ∧ SR K TG B (upd F D (.lst xs)) G0 G2 H3 r2 s2 ∧ RvA K G2 acc xs ∧ k (lc2G own own1 T tt it1 T1 tt1 elt (ds.drop (i + 1)) acc r2),
        fun H3 h3 => ⟨ds.length - (i + 1), by omega, rfl, hlt, h3⟩, fun x H3 y => ?_⟩
      obtain ⟨d, G3, hd, gr, rv⟩ := ok.yld i H2 x H3 G2 e2 i2.gh hlt y
      have hdrop : ds.drop i = d :: ds.drop (i + 1) := by
        rw [List.drop_eq_getElem_cons hlt]
        rw [List.getElem?_eq_getElem hlt] at hd
        rw [Option.some.inj hd]
      rw [hdrop] at hk
      rw [← w2]
      exact lc2_turn k hns hns1 hsub i2 ha h0 gr rv hk hst fun G4 H4 r4 s4 ys acc4 e4 l4 i4 ha4 hk4 => ⟨G4, r4, s4, ys, acc4, e2.trans e4, ⟨l4.1.trans l2.1, fun j n => (l4.2 j n).trans (l2.2 j n)⟩, i4, ha4, hk4⟩
    · have hl : i = ds.length := by omega
      subst hl
      rw [List.drop_length] at hk
      obtain ⟨out, r3, ho, hio, hp⟩ := hk
      cases ho
      refine .inl ⟨ok.stop H2 (e2.trans i2.gh), ?_⟩
      have i3 : SR K TG B F G0 G2 H2 r2 s2 := i2.loose fD
      refine hp G2 H2 D (e1.trans e2) (i3.unwipe l2 hio fun v d q => ?_) ⟨⟨xs, i2.fh _ _ upd_same, ha⟩, i2.gnone h0, fD, fun j es q => ?_⟩
      · obtain ⟨u, h1, h2⟩ := i1.vals v d q
        exact ⟨u, h1, Rv.mono e2 _ _ h2⟩
      · obtain ⟨n, q⟩ := unw_own q
        obtain ⟨a, zs, h1, h2, h3, h4, h5⟩ := i2.owns j es q
        rw [l2.2 j n] at h1
        rw [h1]
        intro e
        cases e
        rw [upd_same] at h5
        cases h5
end
/-! the rules -/
def DTs (X : Cx) (TG : TGx) (W : WX) (ifs : List Expr) (t : M Bool) : Prop := PTs X ifs (rd X.K TG W RB t)
def tYesD : M Bool := .ret true
section
variable {X : Cx} {TG : TGx} {W : WX}
theorem dts_nil : DTs X TG W [] tYesD := ⟨fun pins s σ H Q I h => pts_nil.run pins s σ H Q I (rd_ret (b := true) (R := RB) h fun _ => rfl)⟩
theorem dts_one {c : Expr} {t : M Bool} (h : DT X TG W c t) : DTs X TG W [c] t := pts_one h
variable {elt tg iter tg1 iter1 : Expr} {ifs ifs1 : List Expr} {scope : Scope} {own : List (Str × Nat)} {ow1 ns ns1 : List Nat} {pos spos py : Pos} {it it1 : M (List PyData)} {T T1 : Tg} {t t1 : M Bool} {d : M PyData}
theorem dl_lc (hc : X.calm = true) (hN : X.N.Nodup) (hi : DI X TG W tg iter it) (ok : BlkOk X.N X.env.scope scope own)
    (hg : ∀ (s : Shared) (H : Hp) (C : Addr) (cl : List (Str × Addr)) (fp : List Addr), DG (X.blk s H scope (compEnvC scope cl C X.env) fp) TG tg ns T) (ht : ∀ (s : Shared) (H : Hp) (C : Addr) (cl : List (Str × Addr)) (fp : List Addr), DTs (X.blk s H scope (compEnvC scope cl C X.env) fp) TG W0 ifs t)
    (he : ∀ (s : Shared) (H : Hp) (C : Addr) (cl : List (Str × Addr)) (fp : List Addr), DE (X.blk s H scope (compEnvC scope cl C X.env) fp) TG W0 elt d) (hns : ∀ i ∈ ns, i ∈ own.map (·.2) := by decide) (hs : ∀ x, foldedSetIterable iter X.env x = pure x := by intro _; rfl) :
    DL X TG W (.ListComp elt [⟨tg, iter, ifs, 0⟩] scope pos) (lLc (own.map (·.2)) it T t d) := PE_imp (pe_lc (g := rdG X.K TG ns T) (tt := rd X.K TG W0 RB t) (te := rd X.K TG W0 (RE X.K) d) hc hN hi ok hg ht he hs) fun s H Q q => rdL_lc hns q
theorem ds_setLc {i : Nat} {y : Str} (hc : X.calm = true) (hN : X.N.Nodup) (hy : X.N[i]? = some y) (hyl : X.env.scope.names.lookup y = some .local)
    (hsw : swapsWith (.ListComp elt [⟨tg, iter, ifs, 0⟩] scope pos) (some (.Name y py)) spos.line X.env = pure true) (hi : DI X TG W tg iter it) (ok : BlkOk X.N X.env.scope scope own)
    (hg : ∀ (s : Shared) (H : Hp) (C : Addr) (cl : List (Str × Addr)) (fp : List Addr), DG (X.blk s H scope (compEnvC scope cl C X.env) fp) TG tg ns T) (ht : ∀ (s : Shared) (H : Hp) (C : Addr) (cl : List (Str × Addr)) (fp : List Addr), DTs (X.blk s H scope (compEnvC scope cl C X.env) fp) TG W0 ifs t)
    (he : ∀ (s : Shared) (H : Hp) (C : Addr) (cl : List (Str × Addr)) (fp : List Addr), DE (X.blk s H scope (compEnvC scope cl C X.env) fp) TG W0 elt d) (hns : ∀ i ∈ ns, i ∈ own.map (·.2) := by decide) (hs : ∀ x, foldedSetIterable iter X.env x = pure x := by intro _; rfl) :
    DS X TG W (.Assign [.Name y py] (.ListComp elt [⟨tg, iter, ifs, 0⟩] scope pos) spos) (sSetL i (lLc (own.map (·.2)) it T t d)) := ds_setL (ps_setLc (g := rdG X.K TG ns T) (tt := rd X.K TG W0 RB t) (te := rd X.K TG W0 (RE X.K) d) hc hN hy hyl hsw hi ok hg ht he hs) fun s H Q q => rdL_lc hns q
theorem dl_lc2 (hc : X.calm = true) (hN : X.N.Nodup) (hi : DI X TG W tg iter it) (ok : BlkOk X.N X.env.scope scope own)
    (hg : ∀ (s : Shared) (H : Hp) (C : Addr) (cl : List (Str × Addr)) (fp : List Addr), DG (X.blk s H scope (compEnvC scope cl C X.env) fp) TG tg ns T) (ht : ∀ (s : Shared) (H : Hp) (C : Addr) (cl : List (Str × Addr)) (fp : List Addr), DTs (X.blk s H scope (compEnvC scope cl C X.env) fp) TG W0 ifs t)
    (hi1 : ∀ (s : Shared) (H : Hp) (C : Addr) (cl : List (Str × Addr)) (fp : List Addr), DI (X.blk s H scope (compEnvC scope cl C X.env) fp) TG W0 tg1 iter1 it1)
    (hg1 : ∀ (s : Shared) (H : Hp) (C : Addr) (cl : List (Str × Addr)) (fp : List Addr), DG (X.blk s H scope (compEnvC scope cl C X.env) fp) TG tg1 ns1 T1) (ht1 : ∀ (s : Shared) (H : Hp) (C : Addr) (cl : List (Str × Addr)) (fp : List Addr), DTs (X.blk s H scope (compEnvC scope cl C X.env) fp) TG W0 ifs1 t1)
    (he : ∀ (s : Shared) (H : Hp) (C : Addr) (cl : List (Str × Addr)) (fp : List Addr), DE (X.blk s H scope (compEnvC scope cl C X.env) fp) TG W0 elt d) (hns : ∀ i ∈ ns, i ∈ own.map (·.2) := by decide) (hns1 : ∀ i ∈ ns1, i ∈ ow1 := by decide) (hv : ∀ i ∈ ow1, i ∈ own.map (·.2) := by decide) (hs : ∀ x, foldedSetIterable iter X.env x = pure x := by intro _; rfl) (hs1 : ∀ env x, foldedSetIterable iter1 env x = pure x := by intro _ _; rfl) :
    DL X TG W (.ListComp elt [⟨tg, iter, ifs, 0⟩, ⟨tg1, iter1, ifs1, 0⟩] scope pos) (lLc2 (own.map (·.2)) ow1 it T t it1 T1 t1 d) := PE_imp (pe_lc2 (g := rdG X.K TG ns T) (tt := rd X.K TG W0 RB t) (te := rd X.K TG W0 (RE X.K) d) (wi1 := rdI X.K TG W0 it1) (g1 := rdG X.K TG ns1 T1) (tt1 := rd X.K TG W0 RB t1) hc hN hi ok hv hg ht hi1 hg1 ht1 he hs hs1) fun s H Q q => rdL_lc2 hns hns1 hv q
theorem ds_setLc2 {i : Nat} {y : Str} (hc : X.calm = true) (hN : X.N.Nodup) (hy : X.N[i]? = some y) (hyl : X.env.scope.names.lookup y = some .local)
    (hsw : swapsWith (.ListComp elt [⟨tg, iter, ifs, 0⟩, ⟨tg1, iter1, ifs1, 0⟩] scope pos) (some (.Name y py)) spos.line X.env = pure true) (hi : DI X TG W tg iter it) (ok : BlkOk X.N X.env.scope scope own)
    (hg : ∀ (s : Shared) (H : Hp) (C : Addr) (cl : List (Str × Addr)) (fp : List Addr), DG (X.blk s H scope (compEnvC scope cl C X.env) fp) TG tg ns T) (ht : ∀ (s : Shared) (H : Hp) (C : Addr) (cl : List (Str × Addr)) (fp : List Addr), DTs (X.blk s H scope (compEnvC scope cl C X.env) fp) TG W0 ifs t)
    (hi1 : ∀ (s : Shared) (H : Hp) (C : Addr) (cl : List (Str × Addr)) (fp : List Addr), DI (X.blk s H scope (compEnvC scope cl C X.env) fp) TG W0 tg1 iter1 it1)
    (hg1 : ∀ (s : Shared) (H : Hp) (C : Addr) (cl : List (Str × Addr)) (fp : List Addr), DG (X.blk s H scope (compEnvC scope cl C X.env) fp) TG tg1 ns1 T1) (ht1 : ∀ (s : Shared) (H : Hp) (C : Addr) (cl : List (Str × Addr)) (fp : List Addr), DTs (X.blk s H scope (compEnvC scope cl C X.env) fp) TG W0 ifs1 t1)
    (he : ∀ (s : Shared) (H : Hp) (C : Addr) (cl : List (Str × Addr)) (fp : List Addr), DE (X.blk s H scope (compEnvC scope cl C X.env) fp) TG W0 elt d) (hns : ∀ i ∈ ns, i ∈ own.map (·.2) := by decide) (hns1 : ∀ i ∈ ns1, i ∈ ow1 := by decide) (hv : ∀ i ∈ ow1, i ∈ own.map (·.2) := by decide) (hs : ∀ x, foldedSetIterable iter X.env x = pure x := by intro _; rfl) (hs1 : ∀ env x, foldedSetIterable iter1 env x = pure x := by intro _ _; rfl) :
    DS X TG W (.Assign [.Name y py] (.ListComp elt [⟨tg, iter, ifs, 0⟩, ⟨tg1, iter1, ifs1, 0⟩] scope pos) spos) (sSetL i (lLc2 (own.map (·.2)) ow1 it T t it1 T1 t1 d)) := ds_setL (ps_setLc2 (g := rdG X.K TG ns T) (tt := rd X.K TG W0 RB t) (te := rd X.K TG W0 (RE X.K) d) (wi1 := rdI X.K TG W0 it1) (g1 := rdG X.K TG ns1 T1) (tt1 := rd X.K TG W0 RB t1) hc hN hy hyl hsw hi ok hv hg ht hi1 hg1 ht1 he hs hs1) fun s H Q q => rdL_lc2 hns hns1 hv q
end
end TW

end
section
/-! dicts: keys that are numbers and texts, or nested tuples; looking up, storing, over the layer's heap -/
namespace TW
open PySem PySem.Spec PyProof.Rows L2
/-- two keys are the same -/
def eqK (d e : PyData) : Bool := match keyN d, keyN e with
  | some a, some b => NestedKey.beq a b
  | _, _ => false
def getKV (kvs : List (PyData × PyData)) (d : PyData) : Option PyData := (kvs.find? fun p => eqK p.1 d).map (·.2)
def putKV (kvs : List (PyData × PyData)) (d e : PyData) : List (PyData × PyData) := if kvs.any (fun p => eqK p.1 d) then kvs.map (fun p => if eqK p.1 d then (p.1, e) else p) else kvs ++ [(d, e)]
def isFl (d : PyData) : Bool := (keyD d).isSome
def isNt (d : PyData) : Bool := isTupD d && (match keyN d with | some k => decide (k.depth ≤ 8) | none => false)
/-- the key is of the dict's kind -/
def okK (kvs : List (PyData × PyData)) (d : PyData) : Bool := match kvs with
  | [] => isFl d || isNt d
  | p :: _ => (isFl p.1 && isFl d) || (isNt p.1 && isNt d)
/-- a dict as a value, no object of a class, not the script -/
def isDc : List (PyData × PyData) → Bool
  | (.none, _) :: _ => false
  | _ => true
def keyNk : Key → NestedKey
  | .inl i => .num i
  | .inr x => .text x
theorem keyNk_inj {a b : Key} : keyNk a = keyNk b ↔ a = b := by
  constructor
  · intro h
    cases a <;> cases b <;> simp [keyNk] at h <;> rw [h]
  · intro h; rw [h]
theorem keyD_N {d : PyData} {k : Key} (h : keyD d = some k) : keyN d = some (keyNk k) := by
  cases d <;> simp [keyD] at h <;> subst h <;> rfl
section
variable {K : PySem.W.Frag} {G H : Hp}
theorem rv_key {d : PyData} {k : Key} {v : V} (h : keyD d = some k) (r : Rv K G d v) : v = kV k := by
  cases d <;> simp [keyD] at h <;> subst h <;> exact r
theorem eqK_flat {d e : PyData} {a b : Key} (h : keyD d = some a) (k : keyD e = some b) : eqK d e = decide (a = b) := by
  unfold eqK
  rw [keyD_N h, keyD_N k]
  show NestedKey.beq _ _ = _
  rw [← NestedKey.decide_eq]
  exact decide_eq_decide.mpr keyNk_inj
theorem RvD.get {d : PyData} {k : Key} (hd : keyD d = some k) : ∀ {kvs : List (PyData × PyData)} {ks : List (Key × V)}, RvD K G kvs ks → (match getKV kvs d with | some e => ∃ v, valV ks k = some v ∧ Rv K G e v | none => valV ks k = none)
  | [], _, h => by cases h; exact rfl
  | (k1, e1) :: kvs, _, ⟨x, r, h1, ⟨h2, h3⟩, h4⟩ => by
    subst h1
    have ih := RvD.get hd h4
    have e := eqK_flat h2 hd
    unfold getKV
    rw [List.find?_cons]
    by_cases z : x.1 = k
    · have e : eqK k1 d = true := by rw [e]; exact decide_eq_true z
      rw [e]
      exact ⟨x.2, valV_pos z, h3⟩
    · have e : eqK k1 d = false := by rw [e]; exact decide_eq_false z
      rw [e, valV_neg z]
      exact ih
theorem RvD.any {d : PyData} {k : Key} (hd : keyD d = some k) : ∀ {kvs : List (PyData × PyData)} {ks : List (Key × V)}, RvD K G kvs ks → kvs.any (fun p => eqK p.1 d) = ks.any fun kv => decide (kv.1 = k)
  | [], _, h => by cases h; rfl
  | (k1, e1) :: kvs, _, ⟨x, r, h1, ⟨h2, h3⟩, h4⟩ => by
    subst h1
    rw [List.any_cons, List.any_cons, RvD.any hd h4, eqK_flat h2 hd]
theorem RvD.rep {d e : PyData} {k : Key} {v : V} (hd : keyD d = some k) (he : Rv K G e v) : ∀ {kvs : List (PyData × PyData)} {ks : List (Key × V)}, RvD K G kvs ks → RvD K G (kvs.map fun p => if eqK p.1 d then (p.1, e) else p) (ks.map fun kv => if kv.1 = k then (kv.1, v) else kv)
  | [], _, h => by cases h; exact rfl
  | (k1, e1) :: kvs, _, ⟨x, r, h1, ⟨h2, h3⟩, h4⟩ => by
    subst h1
    refine ⟨_, _, rfl, ?_, RvD.rep hd he h4⟩
    have z := eqK_flat h2 hd
    by_cases w : x.1 = k
    · have z : eqK k1 d = true := by rw [z]; exact decide_eq_true w
      simp only [z, w, if_true]
      exact ⟨by rw [h2, w], he⟩
    · have z : eqK k1 d = false := by rw [z]; exact decide_eq_false w
      simp only [z, w, if_false, Bool.false_eq_true]
      exact ⟨h2, h3⟩
theorem RvD.snoc {d e : PyData} {k : Key} {v : V} (hd : keyD d = some k) (he : Rv K G e v) : ∀ {kvs : List (PyData × PyData)} {ks : List (Key × V)}, RvD K G kvs ks → RvD K G (kvs ++ [(d, e)]) (ks ++ [(k, v)])
  | [], _, h => by cases h; exact ⟨(k, v), [], rfl, ⟨hd, he⟩, rfl⟩
  | p :: kvs, _, ⟨x, r, h1, h2, h4⟩ => by subst h1; exact ⟨x, _, rfl, h2, RvD.snoc hd he h4⟩
theorem RvD.put {d e : PyData} {k : Key} {v : V} (hd : keyD d = some k) (he : Rv K G e v) {kvs : List (PyData × PyData)} {ks : List (Key × V)} (h : RvD K G kvs ks) : RvD K G (putKV kvs d e) (putK ks k v) := by
  unfold putKV putK
  rw [RvD.any hd h]
  split
  · exact RvD.rep hd he h
  · exact RvD.snoc hd he h
theorem RvD.len : ∀ {kvs : List (PyData × PyData)} {ks : List (Key × V)}, RvD K G kvs ks → ks.length = kvs.length
  | [], _, h => by cases h; rfl
  | p :: kvs, _, ⟨x, r, h1, _, h4⟩ => by subst h1; simp [RvD.len h4]
theorem RvD.fl : ∀ {kvs : List (PyData × PyData)} {ks : List (Key × V)}, RvD K G kvs ks → ∀ p ∈ kvs, isFl p.1 = true
  | [], _, _, p, hp => by cases hp
  | (k1, e1) :: kvs, _, ⟨x, r, h1, ⟨h2, _⟩, h4⟩, p, hp => by
    rcases List.mem_cons.mp hp with e | hp
    · subst e; unfold isFl; rw [h2]; rfl
    · exact RvD.fl h4 p hp
theorem RvN.len : ∀ {kvs : List (PyData × PyData)} {xs : List (NestedKey × Addr × Value)}, RvN K G kvs xs → xs.length = kvs.length
  | [], _, h => by cases h; rfl
  | p :: kvs, _, ⟨x, r, h1, _, h4⟩ => by subst h1; simp [RvN.len h4]
theorem isNt_of {d : PyData} {k : NestedKey} (h : keyN d = some k) (hd : k.depth ≤ 8) (ht : isTupD d = true) : isNt d = true := by
  unfold isNt
  rw [ht, h]
  exact decide_eq_true hd
theorem RvN.nt : ∀ {kvs : List (PyData × PyData)} {xs : List (NestedKey × Addr × Value)}, RvN K G kvs xs → ∀ p ∈ kvs, isNt p.1 = true
  | [], _, _, p, hp => by cases hp
  | (k1, e1) :: kvs, _, ⟨x, r, h1, ⟨h2, h3, h5, _⟩, h4⟩, p, hp => by
    rcases List.mem_cons.mp hp with e | hp
    · subst e; exact isNt_of h2 h3 h5
    · exact RvN.nt h4 p hp
theorem fl_not_nt {d : PyData} (h : isFl d = true) : isNt d = false := by
  cases d <;> first | rfl | (unfold isFl keyD at h; cases h)
theorem eqK_nest {d e : PyData} {a b : NestedKey} (h : keyN d = some a) (k : keyN e = some b) : eqK d e = decide (a = b) := by
  unfold eqK
  rw [h, k]
  exact (NestedKey.decide_eq _ _).symm
theorem RvN.get {d : PyData} {k : NestedKey} (hd : keyN d = some k) : ∀ {kvs : List (PyData × PyData)} {xs : List (NestedKey × Addr × Value)}, RvN K G kvs xs → (match getKV kvs d with | some e => ∃ p v, atKey xs k = some p ∧ RelV v p.2 ∧ Rv K G e v | none => atKey xs k = none)
  | [], _, h => by cases h; exact rfl
  | (k1, e1) :: kvs, _, ⟨x, r, h1, ⟨h2, _, _, _, v, h5, h6⟩, h4⟩ => by
    subst h1
    have ih := RvN.get hd h4
    have e := eqK_nest h2 hd
    unfold getKV atKey
    rw [List.find?_cons, List.find?_cons]
    by_cases z : x.1 = k
    · have e : eqK k1 d = true := by rw [e]; exact decide_eq_true z
      rw [e, decide_eq_true z]
      exact ⟨x.2, v, rfl, h5, h6⟩
    · have e : eqK k1 d = false := by rw [e]; exact decide_eq_false z
      rw [e, decide_eq_false z]
      exact ih
theorem RvN.rep {d e : PyData} {k : NestedKey} {v : V} {u : Value} (hd : keyN d = some k) (he : Rv K G e v) (hu : RelV v u) : ∀ {kvs : List (PyData × PyData)} {xs : List (NestedKey × Addr × Value)}, RvN K G kvs xs → RvN K G (kvs.map fun p => if eqK p.1 d then (p.1, e) else p) (xs.map (putAt k u))
  | [], _, h => by cases h; exact rfl
  | (k1, e1) :: kvs, _, ⟨x, r, h1, ⟨h2, h3, h7, h8, h9⟩, h4⟩ => by
    subst h1
    refine ⟨_, _, rfl, ?_, RvN.rep hd he hu h4⟩
    have z := eqK_nest h2 hd
    by_cases w : x.1 = k
    · have z : eqK k1 d = true := by rw [z]; exact decide_eq_true w
      simp only [putAt, z, w, if_true]
      exact ⟨by rw [h2, w], by rw [← w]; exact h3, h7, h8, v, hu, he⟩
    · have z : eqK k1 d = false := by rw [z]; exact decide_eq_false w
      simp only [putAt, z, w, if_false, Bool.false_eq_true]
      exact ⟨h2, h3, h7, h8, h9⟩
theorem RvN.snoc {d e : PyData} {k : NestedKey} {v : V} {u : Value} {b : Addr} (hd : keyN d = some k) (hdp : k.depth ≤ 8) (ht : isTupD d = true) (hb : Rv K G d (.ref b)) (he : Rv K G e v) (hu : RelV v u) : ∀ {kvs : List (PyData × PyData)} {xs : List (NestedKey × Addr × Value)}, RvN K G kvs xs → RvN K G (kvs ++ [(d, e)]) (xs ++ [(k, b, u)])
  | [], _, h => by cases h; exact ⟨(k, b, u), [], rfl, ⟨hd, hdp, ht, hb, v, hu, he⟩, rfl⟩
  | p :: kvs, _, ⟨x, r, h1, h2, h4⟩ => by subst h1; exact ⟨x, _, rfl, h2, RvN.snoc hd hdp ht hb he hu h4⟩
theorem RvN.put {d e : PyData} {k : NestedKey} {v : V} {u : Value} {b : Addr} (hd : keyN d = some k) (hdp : k.depth ≤ 8) (ht : isTupD d = true) (hb : Rv K G d (.ref b)) (he : Rv K G e v) (hu : RelV v u) {kvs : List (PyData × PyData)} {xs : List (NestedKey × Addr × Value)} (h : RvN K G kvs xs) : RvN K G (putKV kvs d e) (storedH xs k b u) := by
  have g := RvN.get hd h
  have a : kvs.any (fun p => eqK p.1 d) = (getKV kvs d).isSome := by
    unfold getKV
    rw [Option.isSome_map]
    clear g h
    induction kvs with
    | nil => rfl
    | cons p r ih => rw [List.any_cons, List.find?_cons, ih]; cases eqK p.1 d <;> rfl
  unfold putKV storedH
  rw [a]
  cases q : getKV kvs d with
  | none =>
    rw [q] at g
    have g : atKey xs k = none := g
    rw [g]
    exact RvN.snoc hd hdp ht hb he hu h
  | some z =>
    rw [q] at g
    obtain ⟨p, w, g, _⟩ := g
    rw [g]
    exact RvN.rep hd he hu h
end
/-! ### a tuple of the values' part is a key -/
section
variable {P : Program} {w : World} {K : PySem.W.Frag} {G H : Hp} {h : Heap}
theorem tw_sqT {a : Addr} {xs : List V} (hok : HOk P w H h) (KX : K.In h) (q : SqT K H a xs) : ∃ (its : List Value) (o : Obj) (n : Nat), Vals xs its ∧ h.get? a = some o ∧ o.cls = .type "tuple" ∧ o.data = .seq its.toArray n := by
  rcases q with q | ⟨o, its, n, e, hc, hd, _, hv⟩
  · obtain ⟨_, its, hv, o, e, hc, n, hd⟩ := (show ObjOk P w H h a (.tup xs) from q.ok hok)
    exact ⟨its, o, n, hv, e, hc, hd⟩
  · exact ⟨its.toList, o, n, hv, KX _ _ e, hc, by simp [hd]⟩
mutual
theorem nested_is (hok : HOk P w H h) (KX : K.In h) (sg : Same G H) : ∀ (d : PyData) (v : V) (u : Value) (k : NestedKey), Rv K G d v → RelV v u → keyN d = some k → NestedIs h k u
  | .none, v, u, k, r, e, hk => by
    cases hk; cases r
    obtain rfl : u = Value.none := e
    exact .none
  | .int i, v, u, k, r, e, hk => by
    cases hk; cases r
    obtain ⟨t, rfl⟩ := e
    exact .int _ _
  | .str x, v, u, k, r, e, hk => by
    cases hk; cases r
    obtain ⟨t, rfl⟩ := e
    exact .text _ _
  | .tuple ds, v, u, k, ⟨a, xs, h1, h2, h3⟩, e, hk => by
    subst h1
    cases (show u = Value.ref a from e)
    have hk : (keyNs ds).map NestedKey.tup = some k := hk
    cases q : keyNs ds with
    | none => rw [q] at hk; cases hk
    | some ks =>
      rw [q] at hk
      cases hk
      obtain ⟨its, o, n, hv, ho, hc, hd⟩ := tw_sqT hok KX (same_t sg h2)
      exact .tup ho hc hd (nested_all hok KX sg ds xs its ks h3 hv q)
  | .bool _, _, _, _, _, _, hk => by cases hk
  | .list _, _, _, _, _, _, hk => by cases hk
  | .dict _, _, _, _, _, _, hk => by cases hk
theorem nested_all (hok : HOk P w H h) (KX : K.In h) (sg : Same G H) : ∀ (ds : List PyData) (xs : List V) (us : List Value) (ks : List NestedKey), RvA K G ds xs → Vals xs us → keyNs ds = some ks → NestedAll h ks us
  | [], _, us, ks, r, e, hk => by cases hk; cases r; cases e; exact .nil
  | d :: ds, _, us, ks, ⟨x, r, h1, h2, h3⟩, e, hk => by
    subst h1
    cases e with
    | cons e1 e2 =>
      have hk : (match keyN d, keyNs ds with | some k, some ks => some (k :: ks) | _, _ => none) = some ks := hk
      cases q1 : keyN d with
      | none => rw [q1] at hk; cases hk
      | some k =>
        cases q2 : keyNs ds with
        | none => rw [q1, q2] at hk; cases hk
        | some ks' =>
          rw [q1, q2] at hk
          cases hk
          exact .cons (nested_is hok KX sg d x _ k h2 e1 q1) (nested_all hok KX sg ds r _ ks' h3 e2 q2)
end
end
/-! ### the operations -/
section
variable {X : Cx} {pins : List (Addr × Obj)} {σ : L2.St} {G H : Hp} {s : Shared} {a : Addr} {o : HO} {kvs : List (PyData × PyData)} {d e : PyData} {y v : V} {u r : Value} {A : Around} {E : Value → Shared → Prop}
/-- the world's hash -/
abbrev wh (X : Cx) : NestedKey → Int := fun k => k.hash X.w
theorem dcO_N {hs : NestedKey → Int} {K : PySem.W.Frag} (D : DcO hs K G kvs a o) (hk : isNt d = true) (ok : okK kvs d = true) : (∃ xs, o = rawN hs a xs ∧ xs ≠ [] ∧ RvN K G kvs xs) ∨ (kvs = [] ∧ o = .dK []) := by
  rcases D with ⟨ks, h1, h2⟩ | h
  · cases kvs with
    | nil => cases h2; exact .inr ⟨rfl, h1⟩
    | cons p r =>
      have f := h2.fl p List.mem_cons_self
      have n := fl_not_nt f
      have ok : ((isFl p.1 && isFl d) || (isNt p.1 && isNt d)) = true := ok
      rw [n, Bool.false_and, Bool.or_false, Bool.and_eq_true] at ok
      rw [fl_not_nt ok.2] at hk
      cases hk
  · exact .inl h
theorem dcO_K {hs : NestedKey → Int} {K : PySem.W.Frag} (D : DcO hs K G kvs a o) (hk : isFl d = true) (ok : okK kvs d = true) : ∃ ks, o = .dK ks ∧ RvD K G kvs ks := by
  rcases D with h | ⟨xs, h1, h0, h2⟩
  · exact h
  · cases kvs with
    | nil => cases h2; exact absurd rfl h0
    | cons p r =>
      have n := h2.nt p List.mem_cons_self
      have ok : ((isFl p.1 && isFl d) || (isNt p.1 && isNt d)) = true := ok
      rw [fl_not_nt hk, Bool.and_false, Bool.or_false, Bool.and_eq_true] at ok
      rw [fl_not_nt ok.1] at n
      cases n
theorem okK_or (ok : okK kvs d = true) : isFl d = true ∨ isNt d = true := by
  cases kvs with
  | nil => simpa [okK] using ok
  | cons p r =>
    simp only [okK, Bool.or_eq_true, Bool.and_eq_true] at ok
    exact ok.imp (·.2) (·.2)
theorem isFl_key (h : isFl d = true) : ∃ k, keyD d = some k := Option.isSome_iff_exists.mp h
theorem isNt_key (h : isNt d = true) : ∃ k, keyN d = some k ∧ k.depth ≤ 8 ∧ isTupD d = true := by
  unfold isNt at h
  rw [Bool.and_eq_true] at h
  cases q : keyN d with
  | none => rw [q] at h; cases h.2
  | some k => rw [q] at h; exact ⟨k, rfl, of_decide_eq_true h.2, h.1⟩
/-- such a dict in the machine's heap -/
theorem raw_dict (I : Inv X pins σ H s) (e : H a = some (rawN (wh X) a xs)) (R : RvN X.K G kvs xs) (sg : Same G H) : xs.length ≤ sizeLine ∧ (a == sysModules) = false ∧ s.heap.DictOfH (nestedKind X.prog X.w) a xs := by
  obtain ⟨h1, h2, h3, o, es, ep, h4, h5, h6, h7⟩ := (I.hok a _ e).1
  refine ⟨h1, h2, o, es, ep, h4, h5, h6, h7, fun x hx => ?_, h3⟩
  clear h1 h3 h7 e
  induction kvs generalizing xs with
  | nil => cases R; cases hx
  | cons p r ih =>
    obtain ⟨y, ys, rfl, k1, k2⟩ := R
    rcases List.mem_cons.mp hx with e | hx
    · subst e
      obtain ⟨k, dd⟩ := p
      obtain ⟨q1, q2, q3, q4, _⟩ := k1
      exact ⟨nested_is I.hok I.kIn sg k _ _ _ q4 rfl q1, q2⟩
    · exact ih k2 hx
theorem dK_empty (I : Inv X pins σ H s) (e : H a = some (.dK [])) : (a == sysModules) = false ∧ s.heap.DictOfH (nestedKind X.prog X.w) a [] := by
  obtain ⟨_, hd, vs, rel, dd⟩ := dk_rd I.hok (.inl e)
  cases rel
  obtain ⟨o, es, ep, h1, h2, h3, _, h5, _⟩ := dd
  have h5 : es.toList = [] := by
    generalize es.toList = l at h5
    cases h5
    rfl
  exact ⟨hd, o, es, ep, h1, h2, h3, h5, fun x hx => (by cases hx), List.nodup_nil⟩
/-- d of the dict at a of H -/
def rDict (X : Cx) (H : Hp) (G : Hp) (kvs : List (PyData × PyData)) (d : PyData) (a : Addr) (y : V) : Prop := ∃ o, H a = some o ∧ DcO (wh X) X.K G kvs a o ∧ Same G H ∧ Rv X.K G d y ∧ okK kvs d = true
theorem dd_find (hu : X.A.units + 65 < cLine) (I : Inv X pins σ H s) (D : rDict X H G kvs d a y) (ry : RelV y u) :
    (∃ o, DGet H a y o ∧ (match getKV kvs d with | some e => ∃ v, o = some v ∧ Rv X.K G e v | none => o = none)) ∨
    ∃ (b : Addr) (k : NestedKey) (xs : List (NestedKey × Addr × Value)), u = .ref b ∧ (nestedKind X.prog X.w).is s.heap k b ∧ (nestedKind X.prog X.w).room X.A.in1 ∧ (a == sysModules) = false ∧ s.heap.DictOfH (nestedKind X.prog X.w) a xs ∧ xs.length ≤ sizeLine ∧
      (match getKV kvs d with | some e => ∃ p v, atKey xs k = some p ∧ RelV v p.2 ∧ Rv X.K G e v | none => atKey xs k = none) := by
  obtain ⟨o, e, D, sg, rd, ok⟩ := D
  have room : (nestedKind X.prog X.w).room X.A.in1 := by show X.A.units + 1 + 8 < cLine; omega
  rcases okK_or ok with hk | hk
  · obtain ⟨k, hk'⟩ := isFl_key hk
    have ey := rv_key hk' rd
    subst ey
    obtain ⟨ks, rfl, R⟩ := dcO_K D hk ok
    refine .inl ⟨_, DGet.k e, ?_⟩
    have g := RvD.get hk' R
    cases q : getKV kvs d with
    | none => rw [q] at g; exact g
    | some z => rw [q] at g; exact g
  · obtain ⟨k, hk', hdp, ht⟩ := isNt_key hk
    have hu' := nested_is I.hok I.kIn sg d y u k rd ry hk'
    cases d with
    | tuple ds =>
      obtain ⟨b, zs, rfl, _, _⟩ := rd
      cases (show u = Value.ref b from ry)
      rcases dcO_N D hk ok with ⟨xs, rfl, _, R⟩ | ⟨rfl, rfl⟩
      · obtain ⟨z, hd, dd⟩ := raw_dict I e R sg
        exact .inr ⟨b, k, xs, rfl, ⟨hu', hdp⟩, room, hd, dd, z, RvN.get hk' R⟩
      · obtain ⟨hd, dd⟩ := dK_empty I e
        exact .inr ⟨b, k, [], rfl, ⟨hu', hdp⟩, room, hd, dd, Nat.zero_le _, rfl⟩
    | _ => cases ht
/-- k in d -/
def rInDD (X : Cx) (neg : Bool) : R2 := fun x y H Q => ∃ G kvs d a, y = .ref a ∧ rDict X H G kvs d a x ∧ Q (.bl (if neg then !(getKV kvs d).isSome else (getKV kvs d).isSome)) H
theorem op_in_dd (hu : X.A.units + 65 < cLine) : OpR X (compareOp .In) (rInDD X false) := by
  intro pins s σ H x y v u Q I rx ry h
  obtain ⟨G, kvs, d, a, rfl, D, q⟩ := h
  obtain rfl : u = Value.ref a := ry
  have q : Q (.bl (getKV kvs d).isSome) H := q
  rcases dd_find hu I D rx with ⟨o, g, hm⟩ | ⟨b, k, xs, rfl, hk, hr, hd, dd, _, hm⟩
  · refine d_in (by omega) I g rx fun s' I' => ⟨.bl o.isSome, H, I', rfl, ?_⟩
    cases z : getKV kvs d with
    | none => rw [z] at hm q; have hm : o = none := hm; subst hm; exact q
    | some w => rw [z] at hm q; obtain ⟨_, rfl, _⟩ := hm; exact q
  · refine wpAny_in_heap hr hk hd dd ⟨.bl (atKey xs k).isSome, H, I.tok _, rfl, ?_⟩
    cases z : getKV kvs d with
    | none => rw [z] at hm q; have hm : atKey xs k = none := hm; rw [hm]; exact q
    | some w => rw [z] at hm q; obtain ⟨p, _, e, _⟩ := hm; rw [e]; exact q
theorem op_notin_dd (hu : X.A.units + 65 < cLine) : OpR X (compareOp .NotIn) (rInDD X true) := by
  intro pins s σ H x y v u Q I rx ry h
  obtain ⟨G, kvs, d, a, rfl, D, q⟩ := h
  obtain rfl : u = Value.ref a := ry
  have q : Q (.bl (!(getKV kvs d).isSome)) H := q
  rcases dd_find hu I D rx with ⟨o, g, hm⟩ | ⟨b, k, xs, rfl, hk, hr, hd, dd, _, hm⟩
  · refine d_notIn (by omega) I g rx fun s' I' => ⟨.bl (!o.isSome), H, I', rfl, ?_⟩
    cases z : getKV kvs d with
    | none => rw [z] at hm q; have hm : o = none := hm; subst hm; exact q
    | some w => rw [z] at hm q; obtain ⟨_, rfl, _⟩ := hm; exact q
  · refine wpAny_notIn_heap hr hk hd dd ⟨.bl (!(atKey xs k).isSome), H, I.tok _, rfl, ?_⟩
    cases z : getKV kvs d with
    | none => rw [z] at hm q; have hm : atKey xs k = none := hm; rw [hm]; exact q
    | some w => rw [z] at hm q; obtain ⟨p, _, e, _⟩ := hm; rw [e]; exact q
theorem dict_ty (I : Inv X pins σ H s) (e : H a = some o) (D : DcO (wh X) X.K G kvs a o) (sg : Same G H) : s.TypeIs (.ref a) "dict" ∧ (∀ b, Value.ref a = .ref b → ∃ ob, s.heap.get? b = some ob ∧ ob.dict = none) ∧ (a == sysModules) = false := by
  rcases D with ⟨ks, rfl, _⟩ | ⟨xs, rfl, _, R⟩
  · exact isD_at I (.inl ⟨ks, .inl e⟩)
  · obtain ⟨_, hd, dd⟩ := raw_dict I e R sg
    obtain ⟨ob, es, ep, h1, h2, _⟩ := dd
    refine ⟨⟨ob, h1, h2.1⟩, fun b q => ?_, hd⟩
    cases q
    exact ⟨ob, h1, h2.2.1⟩
/-- d[k] -/
def rIxDD (X : Cx) : R2 := fun x y H Q => ∃ G kvs d a e, x = .ref a ∧ rDict X H G kvs d a y ∧ getKV kvs d = some e ∧ ∀ v, Rv X.K G e v → Q v H
theorem ix_dd (hu : X.A.units + 65 < cLine) : IxR X (rIxDD X) := by
  intro value slice pins s σ H x y v u Q I rx ry h hs
  obtain ⟨G, kvs, d, a, e, rfl, D, he, q⟩ := h
  obtain rfl : v = Value.ref a := rx
  obtain ⟨o, h1, h2, h3, _⟩ := id D
  refine tail_any (dict_ty I h1 h2 h3).1 PySem.F.slot_dict_getitem.lookup ?_ hs
  rcases dd_find hu I D ry with ⟨o, g, hm⟩ | ⟨b, k, xs, rfl, hk, hr, hd, dd, _, hm⟩
  · rw [he] at hm
    obtain ⟨w, rfl, rw_⟩ := hm
    exact d_getItem (by omega) I g ry fun w' s' I' r' => ⟨w, H, I', r', q w rw_⟩
  · rw [he] at hm
    obtain ⟨p, w, e1, e2, e3⟩ := hm
    exact wpAny_getItem_heap hr hk dd e1 ⟨w, H, I.tok _, e2, q w e3⟩
/-- d.get(k, x) -/
theorem dd_get2 {Q : Value → Shared → Prop} {z : V} {r : Value} (hu : X.A.units + 65 < cLine) (I : Inv X pins σ H s) (D : rDict X H G kvs d a y) (ry : RelV y u) (rz : RelV z r)
    (h : ∀ w w' s', Inv X pins σ H s' → RelV w w' → (match getKV kvs d with | some e => Rv X.K G e w | none => w = z) → Q w' s') : wpAny (model X.prog X.w) X.A (call (.builtin "dict.get") [.ref a, u, r]) Q E s := by
  rcases dd_find hu I D ry with ⟨o, g, hm⟩ | ⟨b, k, xs, rfl, hk, hr, hd, dd, _, hm⟩
  · refine d_get2 (by omega) I g ry rz fun w' s' I' r' => h _ w' s' I' r' ?_
    cases q : getKV kvs d with
    | none => rw [q] at hm; have hm : o = none := hm; subst hm; rfl
    | some e => rw [q] at hm; obtain ⟨w, rfl, e2⟩ := hm; exact e2
  · refine call_meetsIn PySem.F.slot_dict_get dd.typeIs PySem.F.entry_dict_get (PySem.F.args_dict_get_3 _ _ _) (meetsH_dict_get_default (nestedKind X.prog X.w) a b hd r) ⟨hr, k, xs, hk, dd, ?_⟩
    cases q : getKV kvs d with
    | none =>
      rw [q] at hm
      have hm : atKey xs k = none := hm
      rw [hm]
      exact h z r _ (I.tok _) rz (by rw [q])
    | some e =>
      rw [q] at hm
      obtain ⟨p, w, e1, e2, e3⟩ := hm
      rw [e1]
      exact h w p.2 _ (I.tok _) e2 (by rw [q]; exact e3)
/-- d[k] = v -/
def rSetDD (X : Cx) : V → V → V → Hp → (Hp → Prop) → Prop := fun o i v H Q => ∃ G kvs d e a, o = .ref a ∧ rDict X H G kvs d a i ∧ G a = none ∧ Rv X.K G e v ∧ kvs.length < sizeLine ∧ ∀ o', DcO (wh X) X.K G (putKV kvs d e) a o' → Q (upd H a o')
theorem putKV_ne : putKV kvs d e ≠ [] := by
  unfold putKV
  split
  · rename_i h
    intro z
    have := List.map_eq_nil_iff.mp z
    subst this
    cases h
  · simp
theorem putKV_len : (putKV kvs d e).length ≤ kvs.length + 1 := by
  unfold putKV
  split <;> simp
theorem dd_put {Q : Unit → Shared → Prop} {e : PyData} {z : V} {r : Value} (hu : X.A.units + 65 < cLine) (I : Inv X pins σ H s) (D : rDict X H G kvs d a y) (hG : G a = none) (he : Rv X.K G e z) (hl : kvs.length < sizeLine) (ry : RelV y u) (rz : RelV z r)
    (h : ∀ o' s', DcO (wh X) X.K G (putKV kvs d e) a o' → Inv X pins σ (upd H a o') s' → Q () s') : wpAny (model X.prog X.w) X.A (setItem (.ref a) u r) Q E s := by
  obtain ⟨o, e0, D, sg, rd, ok⟩ := D
  have room : (nestedKind X.prog X.w).room X.A.in1 := by show X.A.units + 1 + 8 < cLine; omega
  rcases okK_or ok with hk | hk
  · obtain ⟨k, hk'⟩ := isFl_key hk
    have ey := rv_key hk' rd
    subst ey
    obtain ⟨ks, rfl, R⟩ := dcO_K D hk ok
    exact d_setItem (by omega) I (DPut.k e0 (by rw [R.len]; exact hl)) ry rz fun s' I' => h _ s' (.inl ⟨_, rfl, R.put hk' he⟩) I'
  · obtain ⟨k, hk', hdp, ht⟩ := isNt_key hk
    have hu' := nested_is I.hok I.kIn sg d y u k rd ry hk'
    cases d with
    | tuple ds =>
      obtain ⟨b, zs, rfl, hb1, hb2⟩ := rd
      have hb : Rv X.K G (.tuple ds) (.ref b) := ⟨b, zs, rfl, hb1, hb2⟩
      cases (show u = Value.ref b from ry)
      have ⟨xs, hd, dd, R, hz, mu⟩ : ∃ xs, (a == sysModules) = false ∧ s.heap.DictOfH (nestedKind X.prog X.w) a xs ∧ RvN X.K G kvs xs ∧ xs.length ≤ sizeLine ∧ Mut (H a) := by
        rcases dcO_N D hk ok with ⟨xs, rfl, _, R⟩ | ⟨rfl, rfl⟩
        · obtain ⟨z, hd, dd⟩ := raw_dict I e0 R sg
          exact ⟨xs, hd, dd, R, z, by rw [e0]; exact True.intro⟩
        · obtain ⟨hd, dd⟩ := dK_empty I e0
          exact ⟨[], hd, dd, rfl, Nat.zero_le _, by rw [e0]; exact True.intro⟩
      refine wpAny_setItem_heap (hsz := hz) room ⟨hu', hdp⟩ dd fun h' dd' hs => ?_
      have R' := RvN.put hk' hdp ht hb he rz R
      have hl' : (storedH xs k b r).length ≤ sizeLine := by
        have := putKV_len (kvs := kvs) (d := .tuple ds) (e := e)
        rw [R'.len]; omega
      refine h (rawN (wh X) a (storedH xs k b r)) _ (.inr ⟨_, rfl, fun z => ?_, R'⟩) ?_
      · rw [z] at R'
        cases hq : putKV kvs (.tuple ds) e with
        | nil => exact putKV_ne hq
        | cons p q => rw [hq] at R'; obtain ⟨_, _, w, _⟩ := R'; cases w
      · obtain ⟨q, es, ep, hq, h2, h3, h4, _, h5⟩ := dd'
        have ph : ∀ h2 : Heap, h2.get? a = some q → (storedH xs k b r).length ≤ sizeLine ∧ (a == sysModules) = false ∧ ((storedH xs k b r).map (·.1)).Nodup ∧
          ∃ (o : Obj) (es : Array DictEntry) (ep : Nat), h2.get? a = some o ∧ o.ExactDict ∧ o.data = .dict es ep ∧ es.toList = (storedH xs k b r).map fun x => (⟨wh X x.1, .ref x.2.1, x.2.2⟩ : DictEntry) := fun _ g => ⟨hl', hd, h5, q, es, ep, g, h2, h3, h4⟩
        exact d_write I mu hs ⟨q, hq⟩ ⟨ph h' hq, ⟨q, hq⟩, fun g1 g2 p1 k1 => by
          obtain ⟨a1, a2, a3, o1, es1, ep1, b1, b2, b3, b4⟩ := p1
          exact ⟨a1, a2, a3, o1, es1, ep1, k1 _ b1, b2, b3, b4⟩⟩
    | _ => cases ht
/-- len(d) -/
def rLenDD (X : Cx) : List V → Hp → VK → Prop := fun xs H Q => ∃ G kvs a o, xs = [.ref a] ∧ H a = some o ∧ DcO (wh X) X.K G kvs a o ∧ Same G H ∧ Q (.int kvs.length) H
theorem call_lenDD : CallR X (.builtin "len") (rLenDD X) := by
  intro pins s σ H xs us Q I r h
  obtain ⟨G, kvs, a, o, rfl, e, D, sg, q⟩ := h
  obtain ⟨u, rfl, ru⟩ := vals1 r
  obtain rfl : u = Value.ref a := ru
  rcases D with ⟨ks, rfl, R⟩ | ⟨xs, rfl, _, R⟩
  · rw [← R.len] at q
    exact d_len I (.inl e) fun t s' I' => ⟨.int ks.length, H, I', ⟨t, rfl⟩, q⟩
  · obtain ⟨z, hd, dd⟩ := raw_dict I e R sg
    have hm : s.heap.DictKeyed (nestedKind X.prog X.w) a (pairsH xs) := ⟨xs, dd, rfl⟩
    have hl : (pairsH xs).length = kvs.length := by rw [pairsH_length, R.len]
    have z : kvs.length ≤ sizeLine := by rw [← R.len]; exact z
    refine PyProof.Rows.call_len_slot (n := (pairsH xs).length) hm.typeIs PySem.F.slot_dict_len (fun Q' hq => len_keyed hd hm hq) (by omega) (by rw [sizeLine_eq] at z; omega) ?_
    rw [hl]
    exact ⟨.int kvs.length, H, I.tok _, ⟨_, rfl⟩, q⟩
/-- d.get(k, x) -/
def tGet2DD (X : Cx) (td ty tx : TE) : TE := fun σ H Q => td σ H fun x H1 => ∃ G kvs a o, x = .ref a ∧ H1 a = some o ∧ DcO (wh X) X.K G kvs a o ∧ Same G H1 ∧ ty σ H1 fun y H2 => tx σ H2 fun z H3 => ∃ G3 kvs3 d, rDict X H3 G3 kvs3 d a y ∧
  ∀ w, (match getKV kvs3 d with | some e => Rv X.K G3 e w | none => w = z) → Q w H3
theorem pe_get2DD {o e f : Expr} {apos cpos : Pos} {td ty tx : TE} (hu : X.A.units + 65 < cLine) (ho : PE X o td) (he : PE X e ty) (hf : PE X f tx) (m : M2 X o "get" apos e f cpos) : PE X (.Call (.Attribute o "get" apos) [e, f] [] cpos) (tGet2DD X td ty tx) := by
  refine ⟨fun pins s σ H Q I h => ?_⟩
  refine wpAny_Call_method m.base m.few m.line PySem.F.plainAttrs_dict PySem.F.slot_dict_get PySem.F.type_dict_get (thn (ho.run pins s σ H _ I h) fun u s1 ⟨x, H1, I1, rx, G, kvs, a, ob, ex, e1, D, sg, q1⟩ => ?_)
  subst ex
  obtain rfl : u = Value.ref a := rx
  obtain ⟨t1, t2, _⟩ := dict_ty I1 e1 D sg
  refine ⟨t1, t2, ?_⟩
  rw [m.trees]
  refine Calls.callWith_builtin rfl (Calls.evalArgs_plain (Calls.spliced_cons (thn (he.run pins s1 σ H1 _ I1 q1) fun iv s2 ⟨y, H2, I2, ry, q2⟩ =>
    Calls.spliced_cons (thn (hf.run pins s2 σ H2 _ I2 q2) fun fv s3 ⟨z, H3, I3, rz, G3, kvs3, d3, D3, q3⟩ => Calls.spliced_nil ?_))))
  exact dd_get2 hu I3 D3 ry rz fun w w' s4 I4 rw' hm => ⟨w, H3, I4, rw', q3 w hm⟩
/-- {k: v}, k a tuple; the new dict stands empty while the pair is made -/
def tDispN (X : Cx) (tk tv : TE) : TE := fun σ H Q => ∀ p, H p = none → tk σ (upd H p (.dK [])) fun x H1 => tv σ H1 fun y H2 => H2 p = some (.dK []) ∧ ∃ G d e, isNt d = true ∧ Rv X.K G d x ∧ Same G H2 ∧ Rv X.K G e y ∧ ∀ o', DcO (wh X) X.K G [(d, e)] p o' → Q (.ref p) (upd H2 p o')
theorem pe_dispN {k v : Expr} {pos : Pos} {tk tv : TE} (hu : X.A.units + 65 < cLine) (hk : PE X k tk) (hv : PE X v tv) : PE X (.Dict [some k] [v] pos) (tDispN X tk tv) := by
  refine ⟨fun pins s σ H Q I q => ?_⟩
  have hn := I.hok.fresh (Nat.le_refl s.heap.objs.size)
  have I1 := I.laid (a := s.heap.objs.size) (o := .dK []) (h' := s.heap.push { cls := .type "dict", data := .dict #[] }) (t' := s.toks) (fun _ _ q => Heap.get?_push_of_some _ q) (Nat.le_refl _) (dk_empty s.heap I.big)
  have room : (nestedKind X.prog X.w).room X.A := by show X.A.units + 8 < cLine; omega
  have hP : PPs X pos [some k] [v] [(tk, tv)] := pps_cons hk hv pps_nil
  have hlen := pairTrees_length [some k] [v] X.env pos rfl rfl
  rw [arm_eval_Dict, zip_pairTrees [some k] [v] X.env pos rfl rfl, dictDisplay_pairs _ (fun z => by rw [z] at hlen; cases hlen) (by rw [hlen]; show 1 < 17; decide)]
  refine wpAny_bind (wpAny_standAt (wpAny_bind (wpAny_subDictH (knd := nestedKind X.prog X.w) (Q := fun d s' => wpAny (model X.prog X.w) X.A (pure (Value.ref d)) (EP X pins σ Q) X.xe s') room (by rw [hlen]; show 1 ≤ 15; decide)
    (thn (hP.run pins _ σ _ (fun ps H2 => match ps with
      | [(x, y)] => H2 s.heap.objs.size = some (.dK []) ∧ ∃ G d e, isNt d = true ∧ Rv X.K G d x ∧ Same G H2 ∧ Rv X.K G e y ∧ ∀ o', DcO (wh X) X.K G [(d, e)] s.heap.objs.size o' → Q (.ref s.heap.objs.size) (upd H2 s.heap.objs.size o')
      | _ => False) I1 (q _ hn)) fun ws s2 ⟨ps, H2, I2, rel, hps⟩ => ?_))))
  · match ps, hps with
    | [(x, y)], ⟨e, G, d, e', hd, rx, sg, ry, q2⟩ => ?_
    cases rel with
    | @cons _ b _ bs h t =>
      cases t
      obtain ⟨kb, vb⟩ := b
      obtain ⟨h1, h2⟩ := h
      obtain ⟨nk, hk', hdp, ht⟩ := isNt_key hd
      have hN := nested_is I2.hok I2.kIn sg d x kb nk rx h1 hk'
      cases d with
      | tuple ds =>
        obtain ⟨a, zs, rfl, hb1, hb2⟩ := rx
        have hb : Rv X.K G (.tuple ds) (.ref a) := ⟨a, zs, rfl, hb1, hb2⟩
        cases (show kb = Value.ref a from h1)
        obtain ⟨hne, dd⟩ := dK_empty I2 e
        refine ⟨[(nk, a, vb)], ⟨rfl, rfl, ⟨hN, hdp⟩, True.intro⟩, dd, fun h' tk' dd' hs => wpAny_pure ?_⟩
        have R' : RvN X.K G [(.tuple ds, e')] [(nk, a, vb)] := ⟨_, [], rfl, ⟨hk', hdp, ht, hb, y, h2, ry⟩, rfl⟩
        have es : storedAllH ([] : List (NestedKey × Addr × Value)) [(nk, a, vb)] = [(nk, a, vb)] := rfl
        rw [es] at dd'
        obtain ⟨q, es, ep, hq, g2, g3, g4, _, g5⟩ := dd'
        refine ⟨.ref s.heap.objs.size, _, d_write I2 (by rw [e]; exact True.intro) hs ⟨q, hq⟩ (ob := rawN (wh X) s.heap.objs.size [(nk, a, vb)]) ⟨⟨by rw [sizeLine_eq]; show 1 ≤ 16777216; decide, hne, g5, q, es, ep, hq, g2, g3, g4⟩, ⟨q, hq⟩, fun f1 f2 p1 k1 => ?_⟩, rfl, q2 _ (.inr ⟨_, rfl, List.cons_ne_nil _ _, R'⟩)⟩
        obtain ⟨a1, a2, a3, o1, es1, ep1, b1, b2, b3, b4⟩ := p1
        exact ⟨a1, a2, a3, o1, es1, ep1, k1 _ b1, b2, b3, b4⟩
      | _ => cases ht
theorem set_dd (hu : X.A.units + 65 < cLine) : PSet X (rSetDD X) := by
  intro pins s σ H o i v ov iv u Q I ro ri rv h
  obtain ⟨G, kvs, d, e, a, rfl, D, hG, he, hl, q⟩ := h
  cases (show ov = Value.ref a from ro)
  exact dd_put hu I D hG he hl ri rv fun o' s' D' I' => ⟨_, I', q o' D'⟩
end
end TW

end
section
namespace TW
open PySem PySem.Spec PyProof.Rows L2

/-! ### what a def does -/
/-- a def's body at its parameters' slots; the slots behind it are given back -/
def fnOf (n N : Nat) (body : M Fl) : M PyData := fun sl => if sl.length = n then (match body (sl ++ List.replicate (N - n) .un) with
  | .ok (.rt d) r => .ok d r
  | .ok .nx r => .ok .none r
  | .ex e r => .ex e r
  | _ => .st) else .st
section
variable (K : PySem.W.Frag) (TG : TGx)
def postF (B : List (Nat × Addr)) (F G0 G : Hp) (Q : VK) (E : XK) : Res PyData → Prop
  | .ok d r => ∀ G' H' v s', Same G G' → SR K TG B F G0 G' H' r s' → Rv K G' d v → Q v H'
  | .ex e r => ∀ G' H' c dx s', Same G G' → SR K TG B F G0 G' H' r s' → ExR K G' e c dx → E c dx H'
  | .st => False
/-- the promise of a def -/
def SpOf (n : Nat) (fn : M PyData) : Sp := fun vs H Q E => vs.length = n ∧ ∃ B F G0 G sl, SR K TG B F G0 G H sl (vs.map some) ∧ postF K TG B F G0 G Q E (fn sl)
end
section
variable {K : PySem.W.Frag} {TG : TGx} {B : List (Nat × Addr)} {F G0 G H : Hp} {r : List Sl} {s : L2.St}
theorem SR.pad (i : SR K TG B F G0 G H r s) (n : Nat) : SR K TG B F G0 G H (r ++ List.replicate n .un) (s ++ List.replicate n none) := by
  have at_ : ∀ (k : Nat) (x : Sl), (r ++ List.replicate n Sl.un)[k]? = some x → x = .un ∨ (k < r.length ∧ r[k]? = some x) := fun k x e => by
    by_cases h : k < r.length
    · rw [List.getElem?_append_left h] at e; exact .inr ⟨h, e⟩
    · rw [List.getElem?_append_right (by omega)] at e
      exact .inl (List.eq_of_mem_replicate (List.mem_of_getElem? e))
  have own_ : ∀ (k : Nat) (es : Ow), (r ++ List.replicate n Sl.un)[k]?.bind Sl.own = some es → k < s.length ∧ r[k]?.bind Sl.own = some es := fun k es e => by
    cases q : (r ++ List.replicate n Sl.un)[k]? with
    | none => rw [q] at e; cases e
    | some x =>
      rw [q] at e
      rcases at_ k x q with z | ⟨z1, z2⟩
      · subst z; cases e
      · exact ⟨by rw [← i.len]; exact z1, by rw [z2]; exact e⟩
  refine ⟨by simp [i.len], i.gh, i.fh, i.g0, i.fg, i.gt, i.ft, i.tb, fun k d q => ?_, fun k es q => ?_, fun k l a es es' ne q1 q2 e1 => ?_, fun p hp => ?_, fun k e q => ?_⟩
  · rcases at_ k _ q with z | ⟨z1, z2⟩
    · cases z
    · rw [List.getElem?_append_left (by rw [← i.len]; exact z1)]
      exact i.vals k d z2
  · obtain ⟨z1, z2⟩ := own_ k es q
    rw [List.getElem?_append_left z1]
    exact i.owns k es z2
  · obtain ⟨z1, z2⟩ := own_ k es q1
    obtain ⟨w1, w2⟩ := own_ l es' q2
    rw [List.getElem?_append_left z1] at e1
    rw [List.getElem?_append_left w1]
    exact i.sep k l a es es' ne z2 w2 e1
  · obtain ⟨⟨es, e1, e3⟩, e2⟩ := i.ios p hp
    have h1 := (List.getElem?_eq_some_iff.mp e1).1
    refine ⟨⟨es, by rw [List.getElem?_append_left h1]; exact e1, e3⟩, ?_⟩
    rw [List.getElem?_append_left (by rw [← i.len]; exact h1)]
    exact e2
  · rcases at_ k _ q with z | ⟨z1, z2⟩
    · cases z
    · rw [List.getElem?_append_left (by rw [← i.len]; exact z1)]
      exact i.evs k e z2
end
section
variable {P : Program} {w : World} {K : PySem.W.Frag} {mg : Str → Option Value} {base : Heap} {x qual : Str} {params : Arguments} {body : List Stmt} {scope : Scope} {dvs : List V} {kws : List (Str × V)} {f : Addr} {fd : FuncData} {TG : TGx}
/-- THE RULE for a def -/
theorem def_ok {N ps : List Str} {k n m : Nat} {b : M Fl} (F : FunD K x qual params body scope dvs kws f fd) (S : FnScope N ps scope) (hn : ps.length = n) (hm : N.length = m)
    (hbody : ∀ (cdv : Value) (A : Around) (outer : List Env) (s : Shared) (H : Hp) (E : XK), Room k (A.deeper (envOfC qual scope s.heap.objs.size f cdv)) →
      DSs (cxOf (L2.CX P w) P w K mg base N qual scope f cdv A outer s H E) TG (fun c dx _ H' => E c dx H') body b) : FnOk P w K mg base (L2.CX P w) (k + 1) f fd ps (SpOf K TG n (fnOf n m b)) := by
  refine F.ok S (fun vs H Q E h => by rw [hn]; exact h.1) fun cdv A outer s H vs Q E hr hsp => ⟨_, hbody cdv A outer s H E hr, ?_⟩
  obtain ⟨hl, B, FF, G0, G, sl, i, p⟩ := hsp
  have el : sl.length = n := by rw [i.len, List.length_map, hl]
  refine ⟨B, FF, G0, G, sl ++ List.replicate (m - n) .un, ?_, ?_⟩
  · have := i.pad (m - n)
    unfold L2.start
    rw [hm, hl]
    exact this
  · unfold fnOf at p
    rw [if_pos el] at p
    cases hb : b (sl ++ List.replicate (m - n) .un) with
    | st => rw [hb] at p; exact p
    | ex e r => rw [hb] at p; exact fun G' H' s c dx e' i' => p G' H' c dx s e' i'
    | ok fl r =>
      rw [hb] at p
      cases fl with
      | nx => exact fun G' H' s e' i' => p G' H' V.non s e' i' rfl
      | rt d => exact fun G' H' s e' i' v hv => p G' H' v s e' i' hv
      | bk => exact p.elim
      | ct => exact p.elim
/-- a def's own air -/
theorem takes_def {CXx : CXT} {N : List Str} {cdv : Value} {A : Around} {outer : List Env} {s : Shared} {H : Hp} {E : XK} : Takes (cxOf (L2.CX P w) P w K mg base N qual scope f cdv A outer s H E) (fun c dx _ H' => E c dx H') := takes_of rfl rfl rfl rfl
theorem passes_def {N : List Str} {cdv : Value} {A : Around} {outer : List Env} {s : Shared} {H : Hp} {E : XK} : PassesOwn (model (cxOf (L2.CX P w) P w K mg base N qual scope f cdv A outer s H E).prog (cxOf (L2.CX P w) P w K mg base N qual scope f cdv A outer s H E).w) (cxOf (L2.CX P w) P w K mg base N qual scope f cdv A outer s H E).A (cxOf (L2.CX P w) P w K mg base N qual scope f cdv A outer s H E).env (cxOf (L2.CX P w) P w K mg base N qual scope f cdv A outer s H E).xe := passes_of rfl
end

/-! ### calls -/
def Ow.io : Ow → Sl
  | .l ds => .io ds
  | .x y => .xo y
def Sl.giv : Sl → Option Ow
  | .io ds => some (.l ds)
  | .xo y => some (.x y)
  | _ => none
theorem Ow.io_giv (w : Ow) : w.io.giv = some w := by cases w <;> rfl
theorem Sl.io_of {y : Sl} (h : y.isIo = true) : ∃ w : Ow, y = w.io := by
  cases y with
  | io ds => exact ⟨.l ds, rfl⟩
  | xo y => exact ⟨.x y, rfl⟩
  | _ => cases h
theorem put_put (x : Sl) (a b : Ow) : (x.put a).put b = x.put b := by
  have h := put_io x a
  cases b with
  | l ds => show (if (x.put a).isIo then Sl.io ds else .l ds) = if x.isIo then Sl.io ds else .l ds; rw [h]
  | x y => show (if (x.put a).isIo then Sl.xo y else .x y) = if x.isIo then Sl.xo y else .x y; rw [h]
theorem Ow.io_own (w : Ow) : w.io.own = some w := by cases w <;> rfl
theorem Ow.io_io (w : Ow) : w.io.isIo = true := by cases w <;> rfl
def argsSl (r : List Sl) : List Arg → Option (List Sl)
  | [] => some []
  | .v d :: as => (argsSl r as).map (.v d :: ·)
  | .io i :: as => match r[i]?.bind Sl.own with
    | some w => (argsSl r as).map (w.io :: ·)
    | none => none
def ioIx : List Arg → List Nat
  | [] => []
  | .v _ :: as => ioIx as
  | .io i :: as => i :: ioIx as
def backSl (out : List Sl) : List Arg → Nat → List Sl → List Sl
  | [], _, r => r
  | .v _ :: as, j, r => backSl out as (j + 1) r
  | .io i :: as, j, r => backSl out as (j + 1) (match out[j]?.bind Sl.giv, r[i]? with
    | some w, some x => r.set i (x.put w)
    | _, _ => r)
def nodupB : List Nat → Bool
  | [] => true
  | x :: xs => !xs.contains x && nodupB xs
def dCall (fn : M PyData) (ra : M (List Arg)) : M PyData := ra.bind fun as r => if nodupB (ioIx as) then (match argsSl r as with
  | some sl => match fn sl with
    | .ok d out => .ok d (backSl out as 0 r)
    | .ex e out => .ex e (backSl out as 0 r)
    | .st => .st
  | none => .st) else .st
section
variable {K : PySem.W.Frag} {TG : TGx} {B : List (Nat × Addr)} {F G0 G H : Hp} {r : List Sl} {s : L2.St}
theorem back_len {out : List Sl} : ∀ {as : List Arg} {j : Nat} {r : List Sl}, (backSl out as j r).length = r.length
  | [], _, _ => rfl
  | .v _ :: as, j, r => back_len (as := as)
  | .io i :: as, j, r => by
    show (backSl out as (j + 1) _).length = _
    rw [back_len (as := as)]
    split
    · rw [List.length_set]
    · rfl
theorem argsSl_len {r : List Sl} : ∀ {as : List Arg} {sl : List Sl}, argsSl r as = some sl → sl.length = as.length
  | [], sl, h => by cases h; rfl
  | .v d :: as, sl, h => by
    unfold argsSl at h
    cases q : argsSl r as with
    | none => rw [q] at h; cases h
    | some z => rw [q] at h; cases h; simp [argsSl_len q]
  | .io i :: as, sl, h => by
    unfold argsSl at h
    split at h
    · cases q : argsSl r as with
      | none => rw [q] at h; cases h
      | some z => rw [q] at h; cases h; simp [argsSl_len q]
    · cases h
theorem argsSl_at {r : List Sl} : ∀ {as : List Arg} {sl : List Sl} {j : Nat} {x : Sl}, argsSl r as = some sl → sl[j]? = some x →
    (∃ d, as[j]? = some (.v d) ∧ x = .v d) ∨ (∃ i ds, as[j]? = some (.io i) ∧ x = Ow.io ds ∧ r[i]?.bind Sl.own = some ds)
  | [], sl, j, x, h, e => by cases h; simp at e
  | .v d :: as, sl, j, x, h, e => by
    unfold argsSl at h
    cases q : argsSl r as with
    | none => rw [q] at h; cases h
    | some z =>
      rw [q] at h; cases h
      cases j with
      | zero => simp at e; exact .inl ⟨d, rfl, e.symm⟩
      | succ j => simpa using argsSl_at (j := j) q (by simpa using e)
  | .io i :: as, sl, j, x, h, e => by
    unfold argsSl at h
    split at h
    · rename_i ds hds
      cases q : argsSl r as with
      | none => rw [q] at h; cases h
      | some z =>
        rw [q] at h; cases h
        cases j with
        | zero => simp at e; exact .inr ⟨i, ds, rfl, e.symm, hds⟩
        | succ j => simpa using argsSl_at (j := j) q (by simpa using e)
    · cases h
theorem argsSl_io {r : List Sl} : ∀ {as : List Arg} {sl : List Sl} {j i : Nat}, argsSl r as = some sl → as[j]? = some (.io i) → ∃ ds, sl[j]? = some (Ow.io ds) ∧ r[i]?.bind Sl.own = some ds
  | as, sl, j, i, h, e => by
    have hj : j < sl.length := by rw [argsSl_len h]; exact (List.getElem?_eq_some_iff.mp e).1
    rcases argsSl_at h (List.getElem?_eq_getElem hj) with ⟨d, e1, _⟩ | ⟨i', ds, e1, e2, e3⟩
    · rw [e] at e1; cases e1
    · rw [e] at e1; cases e1
      exact ⟨ds, by rw [List.getElem?_eq_getElem hj, e2], e3⟩
theorem rarg_at {as : List Arg} : ∀ {vs : List V} {j : Nat} {v : V}, RArg K s G as vs → vs[j]? = some v → (∃ d, as[j]? = some (.v d) ∧ Rv K G d v) ∨ (∃ i, as[j]? = some (.io i) ∧ s[i]? = some (some v)) := by
  induction as with
  | nil => intro vs j v h e; cases h; simp at e
  | cons a as ih =>
    intro vs j v h e
    cases a with
    | v d =>
      obtain ⟨x, r, rfl, h2, h3⟩ := h
      cases j with
      | zero => simp at e; subst e; exact .inl ⟨d, rfl, h2⟩
      | succ j => simpa using ih h3 (by simpa using e)
    | io i =>
      obtain ⟨x, r, rfl, h2, h3⟩ := h
      cases j with
      | zero => simp at e; subst e; exact .inr ⟨i, rfl, h2⟩
      | succ j => simpa using ih h3 (by simpa using e)
theorem rarg_len {as : List Arg} : ∀ {vs : List V}, RArg K s G as vs → vs.length = as.length := by
  induction as with
  | nil => intro vs h; cases h; rfl
  | cons a as ih =>
    intro vs h
    cases a with
    | v d => obtain ⟨x, r, rfl, h2, h3⟩ := h; simp [ih h3]
    | io i => obtain ⟨x, r, rfl, h2, h3⟩ := h; simp [ih h3]
theorem mem_ioIx {i : Nat} : ∀ {as : List Arg} {j : Nat}, as[j]? = some (.io i) → i ∈ ioIx as
  | [], j, e => by simp at e
  | .v d :: as, 0, e => by cases e
  | .v d :: as, j + 1, e => mem_ioIx (as := as) (j := j) (by simpa using e)
  | .io k :: as, 0, e => by cases e; exact List.mem_cons_self
  | .io k :: as, j + 1, e => List.mem_cons_of_mem _ (mem_ioIx (as := as) (j := j) (by simpa using e))
theorem nd_io {i : Nat} : ∀ {as : List Arg} {j k : Nat}, nodupB (ioIx as) = true → as[j]? = some (.io i) → as[k]? = some (.io i) → j = k
  | [], j, k, _, e, _ => by simp at e
  | .v d :: as, 0, k, _, e, _ => by cases e
  | .v d :: as, j + 1, 0, _, _, e => by cases e
  | .v d :: as, j + 1, k + 1, h, e1, e2 => congrArg (· + 1) (nd_io (as := as) h (by simpa using e1) (by simpa using e2))
  | .io m :: as, 0, 0, _, _, _ => rfl
  | .io m :: as, 0, k + 1, h, e1, e2 => by
    cases e1
    have h : (!(ioIx as).contains i && nodupB (ioIx as)) = true := h
    rw [Bool.and_eq_true] at h
    have := mem_ioIx (as := as) (j := k) (by simpa using e2)
    simp [this] at h
  | .io m :: as, j + 1, 0, h, e1, e2 => by
    cases e2
    have h : (!(ioIx as).contains i && nodupB (ioIx as)) = true := h
    rw [Bool.and_eq_true] at h
    have := mem_ioIx (as := as) (j := j) (by simpa using e1)
    simp [this] at h
  | .io m :: as, j + 1, k + 1, h, e1, e2 => by
    have h : (!(ioIx as).contains m && nodupB (ioIx as)) = true := h
    rw [Bool.and_eq_true] at h
    exact congrArg (· + 1) (nd_io (as := as) h.2 (by simpa using e1) (by simpa using e2))
/-- a slot behind a call: as it was, or an argument's list -/
theorem back_at {out : List Sl} : ∀ {as : List Arg} {j : Nat} {r : List Sl} {k : Nat} {x : Sl}, (∀ (m i : Nat), as[m]? = some (Arg.io i) → ∃ ds : Ow, out[j + m]? = some (Ow.io ds)) → (backSl out as j r)[k]? = some x →
    ∃ y, r[k]? = some y ∧ ((x = y ∧ ∀ m : Nat, as[m]? ≠ some (Arg.io k)) ∨ ∃ (m : Nat) (ds : Ow), as[m]? = some (Arg.io k) ∧ out[j + m]? = some (Ow.io ds) ∧ x = y.put ds)
  | [], j, r, k, x, _, e => ⟨x, e, .inl ⟨rfl, fun m h => by simp at h⟩⟩
  | .v d :: as, j, r, k, x, ho, e => by
    obtain ⟨y, h1, h2⟩ := back_at (as := as) (j := j + 1) (r := r) (fun m i h => by
      have := ho (m + 1) i (by simpa using h)
      rwa [show j + (m + 1) = j + 1 + m by omega] at this) e
    refine ⟨y, h1, h2.imp (fun ⟨z1, z2⟩ => ⟨z1, fun m h => ?_⟩) fun ⟨m, ds, z1, z2, z3⟩ => ⟨m + 1, ds, by simpa using z1, by rw [show j + (m + 1) = j + 1 + m by omega]; exact z2, z3⟩⟩
    cases m with
    | zero => simp at h
    | succ m => exact z2 m (by simpa using h)
  | .io i :: as, j, r, k, x, ho, e => by
    obtain ⟨ds0, hd0⟩ := ho 0 i (by simp)
    have hd1 : out[j]? = some (Ow.io ds0) := hd0
    have hd0 : out[j]?.bind Sl.giv = some ds0 := by rw [hd1]; exact Ow.io_giv ds0
    have ho' : ∀ (m i : Nat), as[m]? = some (Arg.io i) → ∃ ds : Ow, out[j + 1 + m]? = some (Ow.io ds) := fun m i h => by
      have := ho (m + 1) i (by simpa using h)
      rwa [show j + (m + 1) = j + 1 + m by omega] at this
    have e : (backSl out as (j + 1) (match out[j]?.bind Sl.giv, r[i]? with
      | some ds, some x => r.set i (x.put ds)
      | _, _ => r))[k]? = some x := e
    rw [hd0] at e
    have up : ∀ (m : Nat) (ds : Ow), as[m]? = some (Arg.io k) → out[j + 1 + m]? = some (Ow.io ds) → ((Arg.io i :: as)[m + 1]? = some (.io k) ∧ out[j + (m + 1)]? = some (Ow.io ds)) := fun m ds z1 z2 => ⟨by simpa using z1, by rw [show j + (m + 1) = j + 1 + m by omega]; exact z2⟩
    cases hi : r[i]? with
    | none =>
      rw [hi] at e
      obtain ⟨y, h1, h2⟩ := back_at (as := as) (j := j + 1) ho' e
      have hk : i ≠ k := fun z => by rw [z, h1] at hi; cases hi
      refine ⟨y, h1, h2.imp (fun ⟨z1, z2⟩ => ⟨z1, fun m h => ?_⟩) fun ⟨m, ds, z1, z2, z3⟩ => ⟨m + 1, ds, (up m ds z1 z2).1, (up m ds z1 z2).2, z3⟩⟩
      cases m with
      | zero => simp at h; exact hk h
      | succ m => exact z2 m (by simpa using h)
    | some x0 =>
      rw [hi] at e
      obtain ⟨y, h1, h2⟩ := back_at (as := as) (j := j + 1) ho' e
      by_cases hk : i = k
      · subst hk
        rw [List.getElem?_set_self (List.getElem?_eq_some_iff.mp hi).1] at h1
        cases h1
        refine ⟨x0, hi, .inr ?_⟩
        rcases h2 with ⟨z1, _⟩ | ⟨m, ds, z1, z2, z3⟩
        · exact ⟨0, ds0, by simp, hd1, z1⟩
        · refine ⟨m + 1, ds, (up m ds z1 z2).1, (up m ds z1 z2).2, ?_⟩
          rw [z3, put_put]
      · rw [List.getElem?_set_ne hk] at h1
        refine ⟨y, h1, h2.imp (fun ⟨z1, z2⟩ => ⟨z1, fun m h => ?_⟩) fun ⟨m, ds, z1, z2, z3⟩ => ⟨m + 1, ds, (up m ds z1 z2).1, (up m ds z1 z2).2, z3⟩⟩
        cases m with
        | zero => simp at h; exact hk h
        | succ m => exact z2 m (by simpa using h)
theorem back_un {out : List Sl} : ∀ {as : List Arg} {j : Nat} {r : List Sl} {k : Nat}, (∀ m : Nat, as[m]? ≠ some (Arg.io k)) → (backSl out as j r)[k]? = r[k]?
  | [], j, r, k, _ => rfl
  | .v d :: as, j, r, k, h => back_un (as := as) fun m e => h (m + 1) (by simpa using e)
  | .io i :: as, j, r, k, h => by
    have hk : i ≠ k := fun z => h 0 (by simp [z])
    show (backSl out as (j + 1) _)[k]? = _
    rw [back_un (as := as) fun m e => h (m + 1) (by simpa using e)]
    split
    · rw [List.getElem?_set_ne hk]
    · rfl
/-- the addresses of the lists that are handed over -/
def ioAd (s : L2.St) (as : List Arg) (b : Addr) : Prop := ∃ j i : Nat, as[j]? = some (Arg.io i) ∧ s[i]? = some (some (V.ref b))
open Classical in
noncomputable def calF (H : Hp) (s : L2.St) (as : List Arg) : Hp := fun b => if ioAd s as b then none else match H b with
  | some (.tbl _) => none
  | u => u
noncomputable def calB : List Arg → List V → Nat → List (Nat × Addr)
  | .io _ :: as, .ref a :: vs, j => (j, a) :: calB as vs (j + 1)
  | _ :: as, _ :: vs, j => calB as vs (j + 1)
  | _, _, _ => []
theorem calB_mem : ∀ {as : List Arg} {vs : List V} {j : Nat} {p : Nat × Addr}, p ∈ calB as vs j → ∃ m i : Nat, p.1 = j + m ∧ as[m]? = some (Arg.io i) ∧ vs[m]? = some (V.ref p.2)
  | [], vs, j, p, h => by cases vs <;> simp [calB] at h
  | .v d :: as, [], j, p, h => by simp [calB] at h
  | .io i :: as, [], j, p, h => by simp [calB] at h
  | .v d :: as, x :: vs, j, p, h => by
    have h : p ∈ calB as vs (j + 1) := by cases x <;> exact h
    obtain ⟨m, i, e1, e2, e3⟩ := calB_mem h
    exact ⟨m + 1, i, by omega, by simpa using e2, by simpa using e3⟩
  | .io i :: as, x :: vs, j, p, h => by
    have tail : p ∈ calB as vs (j + 1) → ∃ m i', p.1 = j + m ∧ (Arg.io i :: as)[m]? = some (.io i') ∧ (x :: vs)[m]? = some (.ref p.2) := fun h => by
      obtain ⟨m, i, e1, e2, e3⟩ := calB_mem h
      exact ⟨m + 1, i, by omega, by simpa using e2, by simpa using e3⟩
    cases x with
    | ref a =>
      rcases List.mem_cons.mp (show p ∈ (j, a) :: calB as vs (j + 1) from h) with e | h
      · subst e; exact ⟨0, i, rfl, rfl, rfl⟩
      · exact tail h
    | _ => exact tail h
theorem calB_in : ∀ {as : List Arg} {vs : List V} {j m i : Nat} {a : Addr}, as[m]? = some (.io i) → vs[m]? = some (.ref a) → (j + m, a) ∈ calB as vs j
  | [], vs, j, m, i, a, h, _ => by simp at h
  | b :: as, [], j, m, i, a, _, h => by simp at h
  | b :: as, x :: vs, j, 0, i, a, h1, h2 => by
    simp at h1 h2
    subst h1 h2
    exact List.mem_cons_self
  | b :: as, x :: vs, j, m + 1, i, a, h1, h2 => by
    have z : (j + 1 + m, a) ∈ calB as vs (j + 1) := calB_in (by simpa using h1) (by simpa using h2)
    rw [show j + (m + 1) = j + 1 + m by omega]
    cases b with
    | v d => cases x <;> exact z
    | io i => cases x <;> first | exact List.mem_cons_of_mem _ z | exact z
theorem calF_some {as : List Arg} {b : Addr} {u : HO} (h : calF H s as b = some u) : H b = some u := by
  unfold calF at h
  split at h
  · cases h
  · split at h
    · cases h
    · exact h
theorem calF_in {as : List Arg} {b : Addr} {u : HO} (h : H b = some u) (n : ¬ ioAd s as b) (ht : ∀ ps, u ≠ .tbl ps) : calF H s as b = some u := by
  unfold calF
  rw [if_neg n, h]
  cases u <;> first | rfl | exact absurd rfl (ht _)
theorem calF_io {as : List Arg} {b : Addr} (h : ioAd s as b) : calF H s as b = none := by
  unfold calF
  rw [if_pos h]
theorem io_owned (i : SR K TG B F G0 G H r s) {as : List Arg} {sl : List Sl} (ha : argsSl r as = some sl) {b : Addr} (h : ioAd s as b) : ∃ xs, H b = some xs ∧ G b = none ∧ F b = none := by
  obtain ⟨j, k, e1, e2⟩ := h
  obtain ⟨ds, _, e3⟩ := argsSl_io ha e1
  obtain ⟨a, xs, h1, h2, h3, h4, h5⟩ := i.owns k ds e3
  rw [e2] at h1
  cases h1
  exact ⟨xs, h2, h4, h5⟩
/-- the callee's start -/
theorem SR.enter (i : SR K TG B F G0 G H r s) {as : List Arg} {sl : List Sl} {vs : List V} (ha : argsSl r as = some sl) (hv : RArg K s G as vs) (nd : nodupB (ioIx as) = true) : SR K TG (calB as vs 0) (calF H s as) G G H sl (vs.map some) := by
  have own_ : ∀ (j : Nat) (ds : Ow), sl[j]?.bind Sl.own = some ds → ∃ (k : Nat) (v : V), as[j]? = some (Arg.io k) ∧ r[k]?.bind Sl.own = some ds ∧ vs[j]? = some v ∧ s[k]? = some (some v) := fun j ds q => by
    cases e : sl[j]? with
    | none => rw [e] at q; cases q
    | some x =>
      rw [e] at q
      rcases argsSl_at ha e with ⟨d, _, z⟩ | ⟨k, es, e1, z, e3⟩
      · subst z; cases q
      · subst z
        have q : (Ow.io es).own = some ds := q
        rw [Ow.io_own] at q
        cases q
        have hj : j < vs.length := by rw [rarg_len hv]; exact (List.getElem?_eq_some_iff.mp e1).1
        rcases rarg_at hv (List.getElem?_eq_getElem hj) with ⟨d, w1, _⟩ | ⟨k', w1, w2⟩
        · rw [e1] at w1; cases w1
        · rw [e1] at w1; cases w1
          exact ⟨k, _, e1, e3, List.getElem?_eq_getElem hj, w2⟩
  refine ⟨by rw [argsSl_len ha, List.length_map, rarg_len hv], i.gh, fun b u q => calF_some q, .refl _, fun b u q => .inr q, i.gt, fun b ps q => ?_, i.tb, fun j d q => ?_, fun j ds q => ?_, fun j l a es es' n q1 q2 e1 => ?_, fun p hp => ?_, fun j e q => ?_⟩
  · unfold calF at q
    split at q
    · cases q
    · split at q
      · cases q
      · rename_i hh; exact hh ps q
  · rcases argsSl_at ha q with ⟨d', e1, z⟩ | ⟨k, ds, e1, z, _⟩
    · cases z
      have hj : j < vs.length := by rw [rarg_len hv]; exact (List.getElem?_eq_some_iff.mp e1).1
      rcases rarg_at hv (List.getElem?_eq_getElem hj) with ⟨d', w1, w2⟩ | ⟨k', w1, w2⟩
      · rw [e1] at w1; cases w1
        exact ⟨_, by rw [List.getElem?_map, List.getElem?_eq_getElem hj]; rfl, w2⟩
      · rw [e1] at w1; cases w1
    · cases ds <;> cases z
  · obtain ⟨k, v, e1, e2, e3, e4⟩ := own_ j ds q
    obtain ⟨a, xs, h1, h2, h3, h4, h5⟩ := i.owns k ds e2
    rw [e4] at h1
    cases h1
    exact ⟨a, xs, by rw [List.getElem?_map, e3]; rfl, h2, h3, h4, calF_io ⟨j, k, e1, e4⟩⟩
  · obtain ⟨k, v, a1, a2, a3, a4⟩ := own_ j es q1
    obtain ⟨k', v', b1, b2, b3, b4⟩ := own_ l es' q2
    rw [List.getElem?_map, a3] at e1
    cases e1
    rw [List.getElem?_map, b3]
    intro z
    cases z
    have nk : k ≠ k' := fun e => n (nd_io nd a1 (by rw [e]; exact b1))
    exact i.sep k k' a es es' nk a2 b2 a4 b4
  · obtain ⟨m, k, e1, e2, e3⟩ := calB_mem hp
    obtain ⟨ds, e4, _⟩ := argsSl_io ha e2
    have e1 : p.1 = m := by omega
    rw [e1]
    exact ⟨⟨_, e4, Ow.io_io ds⟩, by rw [List.getElem?_map, e3]; rfl⟩
  · rcases argsSl_at ha q with ⟨d', e1, z⟩ | ⟨k, ds, e1, z, _⟩
    · cases z
    · cases ds <;> cases z
/-- back at the caller -/
theorem SR.back (i : SR K TG B F G0 G H r s) {as : List Arg} {sl out : List Sl} {vs : List V} {G1 H1 : Hp} {s1 : L2.St} (ha : argsSl r as = some sl) (hv : RArg K s G as vs) (i1 : SR K TG (calB as vs 0) (calF H s as) G G1 H1 out s1) : SR K TG B F G0 G1 H1 (backSl out as 0 r) s := by
  have hio : ∀ (m k : Nat), as[m]? = some (Arg.io k) → ∃ (a : Addr) (ds : Ow), s[k]? = some (some (V.ref a)) ∧ out[m]? = some (Ow.io ds) ∧ s1[m]? = some (some (V.ref a)) := fun m k e => by
    obtain ⟨ds, _, e3⟩ := argsSl_io ha e
    obtain ⟨a, xs, h1, _⟩ := i.owns k ds e3
    have hj : m < vs.length := by rw [rarg_len hv]; exact (List.getElem?_eq_some_iff.mp e).1
    have hvm : vs[m]? = some (.ref a) := by
      rcases rarg_at hv (List.getElem?_eq_getElem hj) with ⟨d', w1, w2⟩ | ⟨k', w1, w2⟩
      · rw [e] at w1; cases w1
      · rw [e] at w1; cases w1
        rw [h1] at w2
        rw [List.getElem?_eq_getElem hj]
        exact (Option.some.inj w2).symm
    have hb := calB_in (j := 0) e hvm
    obtain ⟨⟨y, w1, w3⟩, w2⟩ := i1.ios _ hb
    obtain ⟨es, rfl⟩ := Sl.io_of w3
    exact ⟨a, es, h1, by simpa using w1, by simpa using w2⟩
  have hio' : ∀ (m k : Nat), as[m]? = some (Arg.io k) → ∃ ds : Ow, out[0 + m]? = some (Ow.io ds) := fun m k e => by
    obtain ⟨a, ds, _, h, _⟩ := hio m k e
    exact ⟨ds, by rw [Nat.zero_add]; exact h⟩
  have ownB : ∀ (k : Nat) (ds : Ow), (backSl out as 0 r)[k]?.bind Sl.own = some ds → (∃ es, r[k]?.bind Sl.own = some es) ∧ ((r[k]?.bind Sl.own = some ds ∧ ∀ m : Nat, as[m]? ≠ some (Arg.io k)) ∨ ∃ m : Nat, as[m]? = some (Arg.io k) ∧ out[m]? = some (Ow.io ds)) := fun k ds q => by
    cases e : (backSl out as 0 r)[k]? with
    | none => rw [e] at q; cases q
    | some x =>
      rw [e] at q
      obtain ⟨y, h1, h2⟩ := back_at hio' e
      rcases h2 with ⟨z1, z2⟩ | ⟨m, es, z1, z2, z3⟩
      · subst z1
        have w : r[k]?.bind Sl.own = some ds := by rw [h1]; exact q
        exact ⟨⟨ds, w⟩, .inl ⟨w, z2⟩⟩
      · obtain ⟨es', _, e3⟩ := argsSl_io ha z1
        refine ⟨⟨es', e3⟩, .inr ⟨m, z1, ?_⟩⟩
        subst z3
        have q : (y.put es).own = some ds := q
        rw [put_own] at q
        cases q
        simpa using z2
  have fb : ∀ b u, F b = some u → calF H s as b = some u := fun b u q => calF_in (i.fh _ _ q) (fun h => by
    obtain ⟨_, _, _, f⟩ := io_owned i ha h
    rw [f] at q; cases q) fun ps z => i.ft b ps (by rw [q, z])
  refine ⟨by rw [back_len]; exact i.len, i1.gh, fun b u q => i1.fh _ _ (fb b u q), i.g0.trans i1.g0, fun b u q => ?_, i1.gt, i.ft, i1.tb, fun k d q => ?_, fun k ds q => ?_, fun k l a es es' n q1 q2 e1 => ?_, fun p hp => ?_, fun k e q => ?_⟩
  · rcases i1.fg b u q with z | z
    · refine .inl ?_
      cases w : F b with
      | none => rfl
      | some y => rw [fb b y w] at z; cases z
    · exact i.fg b u z
  · obtain ⟨y, h1, h2⟩ := back_at hio' q
    rcases h2 with ⟨z1, _⟩ | ⟨m, es, z1, z2, z3⟩
    · subst z1
      obtain ⟨v, w1, w2⟩ := i.vals k d h1
      exact ⟨v, w1, Rv.mono i1.g0 _ _ w2⟩
    · exact absurd z3.symm (put_nv _ _ _)
  · obtain ⟨_, h⟩ := ownB k ds q
    rcases h with ⟨h1, h2⟩ | ⟨m, h1, h2⟩
    · obtain ⟨a, xs, w1, w2, w3, w4, w5⟩ := i.owns k ds h1
      have na : ¬ ioAd s as a := fun ⟨j, k', e1, e2⟩ => by
        obtain ⟨es, _, e3⟩ := argsSl_io ha e1
        have nk : k ≠ k' := fun e => h2 j (by rw [e1, e])
        exact i.sep k k' a ds es nk h1 e3 w1 e2
      have wc := calF_in w2 na w3.notTbl
      refine ⟨a, xs, w1, i1.fh _ _ wc, w3.mono i1.g0, ?_, w5⟩
      cases z : G1 a with
      | none => rfl
      | some u =>
        rcases i1.fg a u z with z | z
        · rw [wc] at z; cases z
        · rw [w4] at z; cases z
    · obtain ⟨a, es, g1, g2, g3⟩ := hio m k h1
      rw [h2] at g2
      have g2 : ds = es := by
        have w := congrArg Sl.giv (Option.some.inj g2)
        rw [Ow.io_giv, Ow.io_giv] at w
        exact Option.some.inj w
      subst g2
      obtain ⟨a', xs, w1, w2, w3, w4, w5⟩ := i1.owns m ds (by rw [h2]; exact Ow.io_own ds)
      rw [g3] at w1
      cases w1
      obtain ⟨_, _, _, f⟩ := io_owned i ha ⟨m, k, h1, g1⟩
      exact ⟨a, xs, g1, w2, w3, w4, f⟩
  · obtain ⟨⟨ds1, h1⟩, _⟩ := ownB k es q1
    obtain ⟨⟨ds2, h2⟩, _⟩ := ownB l es' q2
    exact i.sep k l a ds1 ds2 n h1 h2 e1
  · obtain ⟨⟨ds, e1, e4⟩, e2⟩ := i.ios p hp
    refine ⟨?_, e2⟩
    have hl : p.1 < (backSl out as 0 r).length := by rw [back_len]; exact (List.getElem?_eq_some_iff.mp e1).1
    obtain ⟨y, h1, h2⟩ := back_at hio' (List.getElem?_eq_getElem hl)
    rw [e1] at h1
    cases h1
    rcases h2 with ⟨z, _⟩ | ⟨m, es, z1, z2, z3⟩
    · exact ⟨ds, by rw [List.getElem?_eq_getElem hl, z], e4⟩
    · exact ⟨_, by rw [List.getElem?_eq_getElem hl, z3], by rw [put_io]; exact e4⟩
  · obtain ⟨y, h1, h2⟩ := back_at hio' q
    rcases h2 with ⟨z1, _⟩ | ⟨m, es, z1, z2, z3⟩
    · subst z1
      obtain ⟨z, w1, w2, w3⟩ := i.evs k e h1
      exact ⟨z, w1, w2, w3.mono i1.g0⟩
    · exact absurd z3.symm (put_nev _ _ _)
end
section
variable {X : Cx} {TG : TGx} {W : WX} {k n : Nat} {f : Addr} {fd : FuncData} {ps : List Str} {fn : M PyData} {x : Str} {p pos : Pos} {e : Expr} {es : List Expr} {ra : M (List Arg)}
theorem rd_call {s : L2.St} {H : Hp} {Q : VK} (hn : ∀ sl, sl.length ≠ n → fn sl = .st) (h : rd X.K TG W (RE X.K) (dCall fn ra) s H Q) : tCallSD (SpOf X.K TG n fn) [] (WE W) (fun s H Q => rd X.K TG W (RArg X.K s) ra s H Q) s H Q := by
  obtain ⟨B, F, G0, G, z, i, p⟩ := h
  refine ⟨B, F, G0, G, z, i, ?_⟩
  unfold dCall M.bind at p
  cases hr : ra z with
  | st => rw [hr] at p; exact p
  | ex x r1 => rw [hr] at p; exact p
  | ok as r1 =>
    rw [hr] at p
    intro G1 H1 vs e1 i1 hv
    have p : post X.K TG W (RE X.K) B F G0 G s Q (if nodupB (ioIx as) then (match argsSl r1 as with
      | some sl => match fn sl with
        | .ok d out => .ok d (backSl out as 0 r1)
        | .ex e out => .ex e (backSl out as 0 r1)
        | .st => .st
      | none => .st) else .st) := p
    split at p
    · rename_i nd
      cases ha : argsSl r1 as with
      | none => rw [ha] at p; exact p.elim
      | some sl =>
        rw [ha] at p
        have p : post X.K TG W (RE X.K) B F G0 G s Q (match fn sl with
          | .ok d out => .ok d (backSl out as 0 r1)
          | .ex e out => .ex e (backSl out as 0 r1)
          | .st => .st) := p
        rw [List.append_nil]
        have hl : vs.length = n := by
          refine Decidable.byContradiction fun hne => ?_
          rw [hn sl (by rw [argsSl_len ha, ← rarg_len hv]; exact hne)] at p
          exact p
        refine ⟨hl, calB as vs 0, calF H1 s as, G1, G1, sl, i1.enter ha hv nd, ?_⟩
        cases hf : fn sl with
        | st => rw [hf] at p; exact p.elim
        | ok d out => rw [hf] at p; exact fun G2 H2 v s2 e2 i2 hd => p G2 H2 v (e1.trans e2) (i1.back ha hv i2) hd
        | ex x out => rw [hf] at p; exact fun G2 H2 c dx s2 e2 i2 hd => p G2 H2 c dx (e1.trans e2) (i1.back ha hv i2) hd
    · exact p.elim
theorem fnOf_len {n N : Nat} {b : M Fl} (sl : List Sl) (h : sl.length ≠ n) : fnOf n N b sl = .st := by
  unfold fnOf
  rw [if_neg h]
/-- where exceptions go: a call's -/
def Air (X : Cx) (W : WX) : Prop := ∀ σ, PassesAt (L2.CX X.prog X.w) X σ (WE W σ)
theorem Air.of (tk : Takes X W) : Air X W := fun σ => passAt tk σ
theorem Air.none : Air X W0 := fun _ _ _ _ _ _ _ ⟨_, _, _, _, _, _, _, _, _, _, _, _, h⟩ => h.elim
/-- f(e, ..), f a def of ours -/
theorem de_call (F : FnOk X.prog X.w X.K X.mg X.base (L2.CX X.prog X.w) k f fd ps (SpOf X.K TG n fn)) (hn : ∀ sl, sl.length ≠ n → fn sl = .st) (hr : Room k X.A) (hg : Gl X x) (hm : X.mg x = some (.ref f)) (hk : PySem.W.keepIn X.K (.ref f) = true) (hb : Binds X.K fd ps []) (air : Air X W)
    (ha : DA X TG W (e :: es) ra) (hdb : (x == ("__debug__" : Str)) = false := by decide) (he : starEach (e :: es) X.env = (false, eval e X.env) :: starEach es X.env := by rfl) (hpl : (backTo pos (starEach es X.env)).any (·.1) = false := by rfl) :
    DE X TG W (.Call (.Name x p) (e :: es) [] pos) (dCall fn ra) := PE_imp (pe_callSD F hr hg hm hk hb .nil air ha hdb he hpl) fun s H Q q => rd_call hn q
theorem de_call0 (F : FnOk X.prog X.w X.K X.mg X.base (L2.CX X.prog X.w) k f fd ps (SpOf X.K TG n fn)) (hn : ∀ sl, sl.length ≠ n → fn sl = .st) (hr : Room k X.A) (hg : Gl X x) (hm : X.mg x = some (.ref f)) (hk : PySem.W.keepIn X.K (.ref f) = true) (hb : Binds X.K fd ps []) (air : Air X W)
    (hdb : (x == ("__debug__" : Str)) = false := by decide) : DE X TG W (.Call (.Name x p) [] [] pos) (dCall fn aNil) := by
  refine ⟨fun pins s σ H Q I h => ?_⟩
  have h := rd_call hn h
  refine wpAny_Call_Name_kw (ld_glob I hg hm ?_ hdb)
  refine PySem.W.callWith_K0 I.kIn hk (run_fnSD (us := []) (vs := []) F hr hb .nil (air σ) I .nil ?_)
  exact rd_ret (a := ([] : List Arg)) (b := ([] : List V)) (R := RArg X.K σ) h fun _ => rfl
end
end TW

end
section
namespace TW
open PySem PySem.Spec PyProof.Rows L2

/-! ### values or new lists -/
inductive Rz where
  | v (d : PyData)
  | l (ds : List PyData)
  | x (y : Xv)
section
variable (K : PySem.W.Frag) (TG : TGx) (W : WX)
def postX (B : List (Nat × Addr)) (F G0 G : Hp) (s : L2.St) (Q : VK) : Res Rz → Prop
  | .ok (.v d) r => ∀ G' H' v, Same G G' → SR K TG B F G0 G' H' r s → Rv K G' d v → Q v H'
  | .ok (.l ds) r => ∀ G' H' a, Same G G' → SR K TG B F G0 G' H' r s → Free K B F G' H' r s a ds → Q (.ref a) H'
  | .ok (.x y) r => ∀ G' H' a, Same G G' → SR K TG B F G0 G' H' r s → FreeO K TG B F G' H' r s a (.x y) → Q (.ref a) H'
  | .ex e r => ∀ G' H' c dx, Same G G' → SR K TG B F G0 G' H' r s → ExR K G' e c dx → W c dx s H'
  | .st => False
def rdX (d : M Rz) : TE := fun s H Q => ∃ B F G0 G r, SR K TG B F G0 G H r s ∧ postX K TG W B F G0 G s Q (d r)
end
def DX (X : Cx) (TG : TGx) (W : WX) (e : Expr) (d : M Rz) : Prop := PE X e (rdX X.K TG W d)
def xV (d : M PyData) : M Rz := d.bind fun x => .ret (.v x)
def xL (d : M (List PyData)) : M Rz := d.bind fun x => .ret (.l x)
/-- a new list as a value -/
def dFx (d : M Rz) : M PyData := d.bind fun x => match x with
  | .v d => .ret d
  | .l ds => .ret (.list ds)
  | .x (.d kvs) => .opt (frzD kvs)
def tSetX (i : Nat) : Rz → M Fl
  | .v x => tSet i x
  | .l xs => tSetL i xs
  | .x y => tSetO i y
def sSetX (i : Nat) (d : M Rz) : M Fl := d.bind (tSetX i)
section
variable {K : PySem.W.Frag} {TG : TGx} {W : WX} {B : List (Nat × Addr)} {F G0 G G1 : Hp} {s : L2.St} {H : Hp} {Q Q' : VK}
theorem postX_mono (e : Same G G1) : ∀ (x : Res Rz), postX K TG W B F G0 G s Q x → postX K TG W B F G0 G1 s Q x
  | .ok (.v d) r, h => fun G' H' b e' => h G' H' b (e.trans e')
  | .ok (.l d) r, h => fun G' H' b e' => h G' H' b (e.trans e')
  | .ok (.x d) r, h => fun G' H' b e' => h G' H' b (e.trans e')
  | .ex x r, h => fun G' H' c dx e' => h G' H' c dx (e.trans e')
  | .st, h => h
/-- two in a row -/
theorem rdX_bind {α β : Type} {R1 : RL α β} {d : M α} {k : α → M Rz} (h : rdX K TG W (d.bind k) s H Q) :
    rd K TG W R1 d s H (fun b H1 => ∃ B F G0 G1 r1 a, SR K TG B F G0 G1 H1 r1 s ∧ R1 G1 a b ∧ postX K TG W B F G0 G1 s Q (k a r1)) := by
  obtain ⟨B, F, G0, G, z, i, p⟩ := h
  refine ⟨B, F, G0, G, z, i, ?_⟩
  unfold M.bind at p
  cases hr : d z with
  | ok a r1 => rw [hr] at p; exact fun G' H' b e i' v => ⟨B, F, G0, G', r1, a, i', v, postX_mono e _ p⟩
  | ex x r1 => rw [hr] at p; exact p
  | st => rw [hr] at p; exact p
theorem rdX_v {d : M PyData} (h : rdX K TG W (xV d) s H Q) : rd K TG W (RE K) d s H Q := by
  obtain ⟨B, F, G0, G, r, i, p⟩ := rdX_bind (R1 := RE K) h
  refine ⟨B, F, G0, G, r, i, post_imp (fun x H1 q => ?_) _ p⟩
  obtain ⟨B, F, G0, G1, r1, a, i1, v1, p1⟩ := q
  exact p1 G1 H1 x (.refl _) i1 v1
theorem rdX_l {d : M (List PyData)} (h : rdX K TG W (xL d) s H Q) : rdL K TG W d s H Q := by
  obtain ⟨B, F, G0, G, r, i, p⟩ := h
  refine ⟨B, F, G0, G, r, i, ?_⟩
  unfold xL M.bind at p
  cases hr : d r with
  | ok a r1 => rw [hr] at p; exact p
  | ex x r1 => rw [hr] at p; exact p
  | st => rw [hr] at p; exact p
theorem rdX_fx {d : M Rz} (h : rd K TG W (RE K) (dFx d) s H Q) : rdX K TG W d s H Q := by
  obtain ⟨B, F, G0, G, z, i, p⟩ := h
  refine ⟨B, F, G0, G, z, i, ?_⟩
  unfold dFx M.bind at p
  cases hd : d z with
  | ok x r1 =>
    rw [hd] at p
    cases x with
    | v d => exact p
    | l ds =>
      intro G' H' a e i' f
      obtain ⟨G2, h3, h4, h5⟩ := f.keep i'
      exact p _ _ _ (e.trans h3) h4 h5
    | x y =>
      obtain ⟨kvs⟩ := y
      intro G' H' a e i' f
      have p : post K TG W (RE K) B F G0 G s Q ((M.opt (frzD kvs) : M PyData) r1) := p
      cases hz : frzD kvs with
      | none => rw [hz] at p; exact p.elim
      | some d =>
        rw [hz] at p
        obtain ⟨G2, h3, h4, h5⟩ := f.keepD i' hz
        exact p _ _ _ (e.trans h3) h4 h5
  | ex x r1 => rw [hd] at p; exact p
  | st => rw [hd] at p; exact p
/-- back to the frame: a list is laid -/
theorem SR.lay (i : SR K TG B F G0 G H r s) {ds : List PyData} {xs : List V} {p : Addr} (hp : H p = none) (v : RvA K G ds xs) : SR K TG B F G0 G (upd H p (.lst xs)) r s ∧ Free K B F G (upd H p (.lst xs)) r s p ds := i.newl hp v
end
section
variable {X : Cx} {TG : TGx} {W : WX} {e a b c : Expr} {st : Stmt} {d : M PyData} {dl : M (List PyData)} {dx dy : M Rz} {pos : Pos}
theorem dx_v (h : DE X TG W e d) : DX X TG W e (xV d) := PE_imp h fun s H Q q => rdX_v q
theorem dx_l (h : DL X TG W e dl) : DX X TG W e (xL dl) := PE_imp h fun s H Q q => rdX_l q
theorem de_x (h : DX X TG W e dx) : DE X TG W e (dFx dx) := PE_imp h fun s H Q q => rdX_fx q
theorem ds_setX {i : Nat} {te : TE} (h : PS X st (tAsg te (gName i))) (w : ∀ s H Q, rdX X.K TG W dx s H Q → te s H Q) : DS X TG W st (sSetX i dx) := PS_imp h fun D s H q => by
  refine w s H _ ?_
  obtain ⟨B, F, G0, G, r, ir, p⟩ := q
  refine ⟨B, F, G0, G, r, ir, ?_⟩
  unfold sSetX M.bind at p
  cases hd : dx r with
  | ok x r1 =>
    rw [hd] at p
    cases x with
    | v d => exact fun G' H' v e i' f => post_tSet i' (postS_mono e _ p) f
    | l ds => exact fun G' H' v e i' f => post_tSetL i' (postS_mono e _ p) f
    | x y => exact fun G' H' v e i' f => post_tSetO i' (postS_mono e _ p) f
  | ex x r1 =>
    rw [hd] at p
    exact fun G' H' c dx e i' x => p G' H' s c dx e i' x
  | st => rw [hd] at p; exact p
/-- name = e -/
theorem ds_setN {i : Nat} {x : Str} {px : Pos} (hN : X.N.Nodup) (hi : X.N[i]? = some x) (hx : Loc X.env.scope x) (he : DX X TG W e dx) (hs : swapsWith e (some (.Name x px)) pos.line X.env = pure false) (hf : X.fn x = true ∨ X.env.scope.names.lookup x = some .local) :
    DS X TG W (.Assign [.Name x px] e pos) (sSetX i dx) := ds_setX (L2.ps_set hN hi hx he hs hf) fun s H Q q => q
def xIf (t : M Bool) (x y : M Rz) : M Rz := t.bind fun k => if k then x else y
theorem dx_if {t : M Bool} (hc : DT X TG W c t) (ha : DX X TG W a dx) (hb : DX X TG W b dy) : DX X TG W (.IfExp c a b pos) (xIf t dx dy) := PE_imp (pe_ifExp hc ha hb) fun s H Q q => by
  obtain ⟨B, F, G0, G, r, i, p⟩ := rdX_bind (R1 := RB) q
  refine ⟨B, F, G0, G, r, i, post_imp (fun k H1 q => ?_) _ p⟩
  obtain ⟨B, F, G0, G1, r1, k', i1, v1, p1⟩ := q
  have v1 : k' = k := v1
  subst v1
  cases k' with
  | true => exact ⟨B, F, G0, G1, r1, i1, p1⟩
  | false => exact ⟨B, F, G0, G1, r1, i1, p1⟩
end

/-! ### operands: a value, or a list that stays its owner's -/
def RO (K : PySem.W.Frag) (s : L2.St) (G : Hp) : Arg → V → Prop
  | .v d, x => Rv K G d x
  | .io i, x => s[i]? = some (some x)
theorem RO.mono {K : PySem.W.Frag} {s : L2.St} {G G' : Hp} (e : Same G G') : ∀ {a : Arg} {x : V}, RO K s G a x → RO K s G' a x
  | .v _, _, h => Rv.mono e _ _ h
  | .io _, _, h => h
/-- e as an operand -/
def DO (X : Cx) (TG : TGx) (W : WX) (e : Expr) (d : M Arg) : Prop := PE X e (fun s H Q => rd X.K TG W (RO X.K s) d s H Q)
def oV (d : M PyData) : M Arg := d.bind fun x => .ret (.v x)
def oN (i : Nat) : M Arg := fun r => match r[i]? with
  | some (.v d) => .ok (.v d) r
  | some (.l _) => .ok (.io i) r
  | some (.io _) => .ok (.io i) r
  | some (.x _) => .ok (.io i) r
  | some (.xo _) => .ok (.io i) r
  | _ => .st
/-- what an own thing is -/
def Ow.dat : Ow → PyData
  | .l ds => .list ds
  | .x (.d kvs) => .dict kvs
/-- what it is -/
def reso (r : List Sl) : Arg → Option PyData
  | .v d => some d
  | .io i => (r[i]?.bind Sl.own).map Ow.dat
/-- a value; its own list or dict may be in the heap alone -/
def Ro (K : PySem.W.Frag) (hs : NestedKey → Int) (G H : Hp) (d : PyData) (x : V) : Prop := match d with
  | .list ds => ∃ a xs, x = .ref a ∧ H a = some (HO.lst xs) ∧ RvA K G ds xs
  | .dict kvs => Rv K G (.dict kvs) x ∨ ∃ a o, x = .ref a ∧ H a = some o ∧ DcO hs K G kvs a o
  | d => Rv K G d x
theorem Rv.ro {K : PySem.W.Frag} {hs : NestedKey → Int} {G H : Hp} {d : PyData} {x : V} (e : Same G H) (h : Rv K G d x) : Ro K hs G H d x := by
  cases d with
  | list ds => obtain ⟨a, xs, h1, h2, h3⟩ := h; exact ⟨a, xs, h1, e _ _ h2, h3⟩
  | dict kvs => exact .inl h
  | _ => exact h
theorem Ro.dp {K : PySem.W.Frag} {hs : NestedKey → Int} {G H : Hp} {d : PyData} {x : V} (e : Same G H) (c : SeqAt.shaped d = true) (h : Ro K hs G H d x) : Dp K H x d := by
  have c := SeqAt.canLay_of_shaped c
  cases d with
  | list ds => obtain ⟨a, xs, h1, h2, h3⟩ := h; subst h1; exact .lst (.inl (.inl h2)) (RvA.dp e _ _ (by simpa [PyData.canLay0] using c) h3)
  | none => exact Rv.dp e _ _ c (show Rv K G .none x from h)
  | bool b => exact Rv.dp e _ _ c (show Rv K G (.bool b) x from h)
  | int b => exact Rv.dp e _ _ c (show Rv K G (.int b) x from h)
  | str b => exact Rv.dp e _ _ c (show Rv K G (.str b) x from h)
  | tuple b => exact Rv.dp e _ _ c (show Rv K G (.tuple b) x from h)
  | dict b => simp [PyData.canLay0] at c
theorem ro_of {K : PySem.W.Frag} {TG : TGx} {B : List (Nat × Addr)} {F G0 G H : Hp} {r : List Sl} {s : L2.St} (i : SR K TG B F G0 G H r s) {a : Arg} {d : PyData} {x : V} (h : RO K s G a x) (e : reso r a = some d) : Ro K TG.hs G H d x := by
  cases a with
  | v y => cases e; exact Rv.ro i.gh h
  | io j =>
    have e : (r[j]?.bind Sl.own).map Ow.dat = some d := e
    cases q : r[j]?.bind Sl.own with
    | none => rw [q] at e; cases e
    | some ds =>
      rw [q] at e
      cases e
      obtain ⟨p, o, h1, h2, h3, _⟩ := i.owns j ds q
      have h : s[j]? = some (some x) := h
      rw [h1] at h
      cases h
      cases ds with
      | l ds => obtain ⟨xs, rfl, h3⟩ := h3; exact ⟨p, xs, rfl, h2, h3⟩
      | x y => obtain ⟨kvs⟩ := y; exact .inr ⟨p, o, rfl, h2, h3⟩
section
variable {X : Cx} {TG : TGx} {W : WX} {e : Expr} {d : M PyData}
theorem do_v (h : DE X TG W e d) : DO X TG W e (oV d) := PE_imp h fun s H Q q => by
  obtain ⟨B, F, G0, G, r, i, p⟩ := rd_bind (R1 := RE X.K) q
  refine ⟨B, F, G0, G, r, i, post_imp (fun x H1 q => ?_) _ p⟩
  obtain ⟨B, F, G0, G1, r1, a, i1, v1, p1⟩ := q
  exact p1 G1 H1 x (.refl _) i1 v1
theorem do_n {i : Nat} {x : Str} {pos : Pos} (h : PE X (.Name x pos) (tVar i)) : DO X TG W (.Name x pos) (oN i) := PE_imp h fun s H Q q => by
  obtain ⟨B, F, G0, G, r, ir, p⟩ := q
  unfold oN at p
  split at p
  · rename_i d e
    obtain ⟨v, h1, h2⟩ := ir.vals i d e
    exact ⟨v, h1, p G H v (.refl _) ir h2⟩
  · rename_i ds e
    obtain ⟨a, xs, h1, _⟩ := ir.owns i _ (by rw [e]; rfl)
    exact ⟨_, h1, p G H _ (.refl _) ir h1⟩
  · rename_i ds e
    obtain ⟨a, xs, h1, _⟩ := ir.owns i _ (by rw [e]; rfl)
    exact ⟨_, h1, p G H _ (.refl _) ir h1⟩
  · rename_i ds e
    obtain ⟨a, xs, h1, _⟩ := ir.owns i _ (by rw [e]; rfl)
    exact ⟨_, h1, p G H _ (.refl _) ir h1⟩
  · rename_i ds e
    obtain ⟨a, xs, h1, _⟩ := ir.owns i _ (by rw [e]; rfl)
    exact ⟨_, h1, p G H _ (.refl _) ir h1⟩
  · exact p.elim
end

/-! ### operations on values -/
/-- by the layer's rule r: where f says z, the value is z's, the heap grows at most -/
def Op2 (X : Cx) (hs : NestedKey → Int) (r : R2) (f : PyData → PyData → Option PyData) : Prop :=
  ∀ (d e z : PyData) (x y : V) (G H : Hp) (Q : VK), Same G H → f d e = some z → Ro X.K hs G H d x → Ro X.K hs G H e y → (∀ G' H' v, Grow G H G' H' → Rv X.K G' z v → Q v H') → r x y H Q
def two {α : Type} (a b : M Arg) (k : PyData → PyData → M α) : M α := a.bind fun x => b.bind fun y r => match reso r x, reso r y with
  | some d, some e => k d e r
  | _, _ => .st
def dBin (f : PyData → PyData → Option PyData) (a b : M Arg) : M PyData := two a b fun d e => .opt (f d e)
section
variable {X : Cx} {TG : TGx} {W : WX} {a b : Expr} {da db : M Arg} {pos : Pos}
theorem rd_two {γ δ : Type} {R2 : RL γ δ} {k : PyData → PyData → M γ} {s : L2.St} {H : Hp} {Q : δ → Hp → Prop} (h : rd X.K TG W R2 (two da db k) s H Q) :
    rd X.K TG W (RO X.K s) da s H fun x H1 => rd X.K TG W (RO X.K s) db s H1 fun y H2 => ∃ B F G0 G r d e, SR X.K TG B F G0 G H2 r s ∧ Ro X.K TG.hs G H2 d x ∧ Ro X.K TG.hs G H2 e y ∧ post X.K TG W R2 B F G0 G s Q (k d e r) := by
  obtain ⟨B, F, G0, G, r0, i0, p0⟩ := rd_bind (R1 := RO X.K s) h
  refine ⟨B, F, G0, G, r0, i0, post_imp (fun x H1 q => ?_) _ p0⟩
  obtain ⟨B, F, G0, G1, r1, d, i1, v1, p1⟩ := q
  refine ⟨B, F, G0, G1, r1, i1, post_imp (fun y H2 q => ?_) _ (post_bind (R1 := RO X.K s) _ p1)⟩
  obtain ⟨G2, r2, e, e2, i2, v2, p2⟩ := q
  have p2 : post X.K TG W R2 B F G0 G2 s Q (match reso r2 d, reso r2 e with
    | some d, some e => k d e r2
    | _, _ => .st) := p2
  cases hd : reso r2 d with
  | none => rw [hd] at p2; exact p2.elim
  | some u =>
    cases he : reso r2 e with
    | none => rw [hd, he] at p2; exact p2.elim
    | some w =>
      rw [hd, he] at p2
      exact ⟨B, F, G0, G2, r2, u, w, i2, ro_of i2 (v1.mono e2) hd, ro_of i2 v2 he, p2⟩
theorem tOp_of {r : R2} {f : PyData → PyData → Option PyData} (hf : Op2 X TG.hs r f) {s : L2.St} {H : Hp} {Q : VK} (h : rd X.K TG W (RE X.K) (dBin f da db) s H Q) :
    tOp r (fun s H Q => rd X.K TG W (RO X.K s) da s H Q) (fun s H Q => rd X.K TG W (RO X.K s) db s H Q) s H Q := by
  obtain ⟨B, F, G0, G, r0, i0, p0⟩ := rd_two h
  refine ⟨B, F, G0, G, r0, i0, post_imp (fun x H1 q => ?_) _ p0⟩
  obtain ⟨B, F, G0, G, r0, i0, p0⟩ := q
  refine ⟨B, F, G0, G, r0, i0, post_imp (fun y H2 q => ?_) _ p0⟩
  obtain ⟨B, F, G0, G2, r2, d, e, i2, v1, v2, p3⟩ := q
  cases hz : f d e with
  | none => rw [hz] at p3; exact p3.elim
  | some z =>
    rw [hz] at p3
    exact hf d e z x y G2 H2 Q i2.gh hz v1 v2 fun G' H' v g rv => p3 G' H' v g.g (i2.grow g) rv
theorem de_bin {op : Operator} {r : R2} {f : PyData → PyData → Option PyData} (ho : OpR X (binaryOp op) r) (hf : Op2 X TG.hs r f) (ha : DO X TG W a da) (hb : DO X TG W b db) : DE X TG W (.BinOp a op b pos) (dBin f da db) :=
  PE_imp (pe_op ho ha hb) fun s H Q h => tOp_of hf h
theorem de_cmp {op : CmpOp} {r : R2} {f : PyData → PyData → Option PyData} (ho : OpR X (compareOp op) r) (hf : Op2 X TG.hs r f) (hm : behindInMarks op b = false) (ha : DO X TG W a da) (hb : DO X TG W b db) : DE X TG W (.Compare a [op] [b] pos) (dBin f da db) :=
  PE_imp (pe_cmpR ho ha hb hm) fun s H Q h => tOp_of hf h
theorem dt_cmp {op : CmpOp} {r : R2} {f : PyData → PyData → Option PyData} (ho : OpR X (compareOp op) r) (hf : Op2 X TG.hs r f) (hm : behindInMarks op b = false) (ha : DO X TG W a da) (hb : DO X TG W b db) : DT X TG W (.Compare a [op] [b] pos) ((dBin f da db).bind asB) :=
  PT_imp (pt_cmpR ho ha hb hm) fun s H Q q => tOp_of hf (rd_asB q)
end

/-! ### operations that may make a list -/
/-- by the layer's rule r: a value with new objects, or a new list of values -/
def OpX (X : Cx) (hs : NestedKey → Int) (r : R2) (f : PyData → PyData → Option Rz) : Prop :=
  ∀ (d e : PyData) (z : Rz) (x y : V) (G H : Hp) (Q : VK), Same G H → f d e = some z → Ro X.K hs G H d x → Ro X.K hs G H e y →
    (∀ kvs, z = .x (.d kvs) → ∀ p o, H p = none → DcO hs X.K G kvs p o → Q (.ref p) (upd H p o)) → (∀ d', z = .v d' → ∀ G' H' v, Grow G H G' H' → Rv X.K G' d' v → Q v H') → (∀ ds, z = .l ds → ∀ p xs, H p = none → RvA X.K G ds xs → Q (.ref p) (upd H p (.lst xs))) → r x y H Q
def xBin (f : PyData → PyData → Option Rz) (a b : M Arg) : M Rz := two a b fun d e => .opt (f d e)
section
variable {X : Cx} {TG : TGx} {W : WX} {a b : Expr} {da db : M Arg} {pos : Pos}
theorem rdX_two {k : PyData → PyData → M Rz} {s : L2.St} {H : Hp} {Q : VK} (h : rdX X.K TG W (two da db k) s H Q) :
    rd X.K TG W (RO X.K s) da s H fun x H1 => rd X.K TG W (RO X.K s) db s H1 fun y H2 => ∃ B F G0 G r d e, SR X.K TG B F G0 G H2 r s ∧ Ro X.K TG.hs G H2 d x ∧ Ro X.K TG.hs G H2 e y ∧ postX X.K TG W B F G0 G s Q (k d e r) := by
  obtain ⟨B, F, G0, G, r0, i0, p0⟩ := rdX_bind (R1 := RO X.K s) h
  refine ⟨B, F, G0, G, r0, i0, post_imp (fun x H1 q => ?_) _ p0⟩
  obtain ⟨B, F, G0, G1, r1, d, i1, v1, p1⟩ := q
  refine ⟨B, F, G0, G1, r1, i1, ?_⟩
  unfold M.bind at p1
  cases hr : db r1 with
  | ex x r2 => rw [hr] at p1; exact p1
  | st => rw [hr] at p1; exact p1
  | ok e r2 =>
    rw [hr] at p1
    intro G2 H2 y e2 i2 v2
    have p2 : postX X.K TG W B F G0 G1 s Q (match reso r2 d, reso r2 e with
      | some d, some e => k d e r2
      | _, _ => .st) := p1
    cases hd : reso r2 d with
    | none => rw [hd] at p2; exact p2.elim
    | some u =>
      cases he : reso r2 e with
      | none => rw [hd, he] at p2; exact p2.elim
      | some w =>
        rw [hd, he] at p2
        exact ⟨B, F, G0, G2, r2, u, w, i2, ro_of i2 (v1.mono e2) hd, ro_of i2 v2 he, postX_mono e2 _ p2⟩
theorem tOpX_of {r : R2} {f : PyData → PyData → Option Rz} (hf : OpX X TG.hs r f) {s : L2.St} {H : Hp} {Q : VK} (h : rdX X.K TG W (xBin f da db) s H Q) :
    tOp r (fun s H Q => rd X.K TG W (RO X.K s) da s H Q) (fun s H Q => rd X.K TG W (RO X.K s) db s H Q) s H Q := by
  obtain ⟨B, F, G0, G, r0, i0, p0⟩ := rdX_two h
  refine ⟨B, F, G0, G, r0, i0, post_imp (fun x H1 q => ?_) _ p0⟩
  obtain ⟨B, F, G0, G, r0, i0, p0⟩ := q
  refine ⟨B, F, G0, G, r0, i0, post_imp (fun y H2 q => ?_) _ p0⟩
  obtain ⟨B, F, G0, G2, r2, d, e, i2, v1, v2, p1⟩ := q
  cases hz : f d e with
  | none => rw [hz] at p1; exact p1.elim
  | some z =>
    rw [hz] at p1
    refine hf d e z x y G2 H2 Q i2.gh hz v1 v2 (fun kvs hk p o hp hv => ?_) (fun d' hd G' H' v g rv => ?_) fun ds hl p xs hp hv => ?_
    · subst hk
      obtain ⟨i3, fr⟩ := i2.newx (w := .x (.d kvs)) hp hv
      exact p1 _ _ _ (.refl _) i3 fr
    · subst hd
      exact p1 G' H' v g.g (i2.grow g) rv
    · subst hl
      obtain ⟨i3, fr⟩ := i2.newl hp hv
      exact p1 _ _ _ (.refl _) i3 fr
theorem dx_bin {op : Operator} {r : R2} {f : PyData → PyData → Option Rz} (ho : OpR X (binaryOp op) r) (hf : OpX X TG.hs r f) (ha : DO X TG W a da) (hb : DO X TG W b db) : DX X TG W (.BinOp a op b pos) (xBin f da db) :=
  PE_imp (pe_op ho ha hb) fun s H Q h => tOpX_of hf h
end
/-- + -/
def fAdd : PyData → PyData → Option Rz
  | .int i, .int j => some (.v (.int (i + j)))
  | .str x, .str y => if x.length + y.length ≤ sizeLine then some (.v (.str (x ++ y))) else none
  | .tuple xs, .tuple ys => if xs.length + ys.length ≤ sizeLine then some (.v (.tuple (xs ++ ys))) else none
  | .list xs, .list ys => if xs.length + ys.length ≤ sizeLine then some (.l (xs ++ ys)) else none
  | _, _ => none
/-- * -/
def fMul : PyData → PyData → Option Rz
  | .int i, .int j => if (-(2 ^ 64) < i ∧ i < 2 ^ 64) ∨ (-(2 ^ 64) < j ∧ j < 2 ^ 64) then some (.v (.int (i * j))) else none
  | .tuple xs, .int k => if xs ≠ [] ∧ 2 ≤ k ∧ k ≤ 1000 ∧ xs.length ≤ 1000 then some (.v (.tuple (List.replicate k.toNat xs).flatten)) else none
  | .list xs, .int k => if -(2 ^ 63) ≤ k ∧ k < 2 ^ 63 ∧ xs.length * k.toNat ≤ sizeLine then some (.l (List.replicate k.toNat xs).flatten) else none
  | _, _ => none
section
variable {X : Cx}
theorem RvA.rep {K : PySem.W.Frag} {G : Hp} {ds : List PyData} {xs : List V} (h : RvA K G ds xs) : ∀ n : Nat, RvA K G (List.replicate n ds).flatten (List.replicate n xs).flatten
  | 0 => rfl
  | n + 1 => by
    rw [List.replicate_succ, List.replicate_succ, List.flatten_cons, List.flatten_cons]
    exact h.app (RvA.rep h n)
theorem RvA.nil_iff {K : PySem.W.Frag} {G : Hp} {ds : List PyData} {xs : List V} (h : RvA K G ds xs) : xs = [] ↔ ds = [] := by
  have := h.len
  constructor <;> intro e <;> subst e
  · exact List.eq_nil_of_length_eq_zero this.symm
  · exact List.eq_nil_of_length_eq_zero this
theorem OpX.or {f : Value → Value → Sem Value} {r r' : R2} (h : OpR X f r) (h' : OpR X f r') : OpR X f (fun x y H Q => r x y H Q ∨ r' x y H Q) := OpR.or h h'
theorem ox_add : OpX X hs (fun x y H Q => (rI0 (fun i j => .int (i + j)) x y H Q ∨ (∃ i j, x = .str i ∧ y = .str j ∧ i.length + j.length ≤ sizeLine ∧ Q (.str (i ++ j)) H)) ∨ (rCatA X.K x y H Q ∨ rCat x y H Q)) fAdd := by
  intro d e z x y G H Q gh hz hx hy qx qv ql
  unfold fAdd at hz
  split at hz
  · cases hz; cases hx; cases hy
    exact .inl (.inl ⟨_, _, rfl, rfl, qv _ rfl G H _ (.refl gh) rfl⟩)
  · split at hz
    · rename_i hl
      cases hz; cases hx; cases hy
      exact .inl (.inr ⟨_, _, rfl, rfl, hl, qv _ rfl G H _ (.refl gh) rfl⟩)
    · cases hz
  · split at hz
    · rename_i xs ys hl
      cases hz
      obtain ⟨p, us, rfl, h1, h2⟩ := hx
      obtain ⟨q, vs, rfl, k1, k2⟩ := hy
      refine .inr (.inl ⟨p, q, us, vs, rfl, rfl, same_t gh h1, same_t gh k1, by rw [h2.len, k2.len]; exact hl, fun e => ?_, fun e e' => ?_, fun e e' b hb => ?_⟩)
      · have e := h2.nil_iff.mp e
        subst e
        exact qv _ rfl G H _ (.refl gh) ⟨q, vs, rfl, k1, k2⟩
      · have e := k2.nil_iff.mp e'
        subst e
        rw [List.append_nil] at qv
        exact qv _ rfl G H _ (.refl gh) ⟨p, us, rfl, h1, h2⟩
      · have g := Grow.new gh hb (.tup (us ++ vs)) (fun _ z => by cases z)
        exact qv _ rfl _ _ _ g ⟨b, _, rfl, .inl (.inl upd_same), (RvA.mono g.g _ _ h2).app (RvA.mono g.g _ _ k2)⟩
    · cases hz
  · split at hz
    · rename_i xs ys hl
      cases hz
      obtain ⟨p, us, rfl, h1, h2⟩ := hx
      obtain ⟨q, vs, rfl, k1, k2⟩ := hy
      exact .inr (.inr ⟨p, q, us, vs, rfl, rfl, h1, k1, by rw [h2.len, k2.len]; exact hl, fun b hb => ql _ rfl b _ hb (h2.app k2)⟩)
    · cases hz
  · cases hz
theorem ox_mul : OpX X hs (fun x y H Q => rI CMul (fun i j => .int (i * j)) x y H Q ∨ (rRepT X.K x y H Q ∨ rRep x y H Q)) fMul := by
  intro d e z x y G H Q gh hz hx hy qx qv ql
  unfold fMul at hz
  split at hz
  · split at hz
    · rename_i hc
      cases hz; cases hx; cases hy
      exact .inl ⟨_, _, rfl, rfl, hc, qv _ rfl G H _ (.refl gh) rfl⟩
    · cases hz
  · split at hz
    · rename_i xs k hc
      cases hz; cases hy
      obtain ⟨p, us, rfl, h1, h2⟩ := hx
      refine .inr (.inl ⟨p, k, us, rfl, rfl, same_t gh h1, fun e => hc.1 (h2.nil_iff.mp e), hc.2.1, hc.2.2.1, by rw [h2.len]; exact hc.2.2.2, fun b hb => ?_⟩)
      have g := Grow.new gh hb (.tup (List.replicate k.toNat us).flatten) (fun _ z => by cases z)
      exact qv _ rfl _ _ _ g ⟨b, _, rfl, .inl (.inl upd_same), (RvA.mono g.g _ _ h2).rep _⟩
    · cases hz
  · split at hz
    · rename_i xs k hc
      cases hz; cases hy
      obtain ⟨p, us, rfl, h1, h2⟩ := hx
      exact .inr (.inr ⟨p, k, us, rfl, rfl, h1, hc.1, hc.2.1, by rw [h2.len]; exact hc.2.2, fun b hb => ql _ rfl b _ hb (h2.rep _)⟩)
    · cases hz
  · cases hz
def fInt (C : Int → Int → Bool) (g : Int → Int → Int) : PyData → PyData → Option PyData
  | .int i, .int j => if C i j then some (.int (g i j)) else none
  | _, _ => none
def fSub := fInt (fun _ _ => true) (· - ·)
def fDiv := fInt (fun _ j => decide (0 < j ∧ j < 1073741824)) (· / ·)
def fMod := fInt (fun _ j => decide (0 < j)) (· % ·)
def fPow := fInt (fun i j => decide (0 ≤ j ∧ j ≤ 1000000 ∧ i.natAbs < 2 ^ 64)) fun i j => i ^ j.toNat
theorem o_int {C : Int → Int → Prop} {c : Int → Int → Bool} {g : Int → Int → Int} (hc : ∀ i j, c i j = true → C i j) : Op2 X hs (rI C fun i j => .int (g i j)) (fInt c g) := by
  intro d e z x y G H Q gh hz hx hy q
  unfold fInt at hz
  split at hz
  · split at hz
    · rename_i h
      cases hz; cases hx; cases hy
      exact ⟨_, _, rfl, rfl, hc _ _ h, q G H _ (.refl gh) rfl⟩
    · cases hz
  · cases hz
theorem o_sub : Op2 X hs (rI0 fun i j => .int (i - j)) fSub := by
  intro d e z x y G H Q gh hz hx hy q
  unfold fSub fInt at hz
  split at hz
  · cases hz; cases hx; cases hy
    exact ⟨_, _, rfl, rfl, q G H _ (.refl gh) rfl⟩
  · cases hz
theorem o_div : Op2 X hs (rI CDiv fun i j => .int (i / j)) fDiv := o_int fun i j h => (of_decide_eq_true h : 0 < j ∧ j < 1073741824)
theorem o_mod : Op2 X hs (rI (fun _ j => 0 < j) fun i j => .int (i % j)) fMod := o_int fun i j h => of_decide_eq_true h
theorem o_pow : Op2 X hs (rI CPow fun i j => .int (i ^ j.toNat)) fPow := o_int fun i j h => (of_decide_eq_true h : 0 ≤ j ∧ j ≤ 1000000 ∧ i.natAbs < 2 ^ 64)
/-! comparisons -/
def fEq (d e : PyData) : Option PyData := if SeqAt.shaped d && SeqAt.shaped e then some (.bool (PyData.eqv d e)) else none
def fNe (d e : PyData) : Option PyData := if SeqAt.shaped d && SeqAt.shaped e then some (.bool (!PyData.eqv d e)) else none
theorem o_eq : Op2 X hs (rEqD X.K) fEq := by
  intro d e z x y G H Q gh hz hx hy q
  unfold fEq at hz
  split at hz
  · rename_i h
    rw [Bool.and_eq_true] at h
    cases hz
    exact ⟨d, e, Ro.dp gh h.1 hx, Ro.dp gh h.2 hy, h.1, h.2, q G H _ (.refl gh) rfl⟩
  · cases hz
theorem o_ne : Op2 X hs (rNeD X.K) fNe := by
  intro d e z x y G H Q gh hz hx hy q
  unfold fNe at hz
  split at hz
  · rename_i h
    rw [Bool.and_eq_true] at h
    cases hz
    exact ⟨d, e, Ro.dp gh h.1 hx, Ro.dp gh h.2 hy, h.1, h.2, q G H _ (.refl gh) rfl⟩
  · cases hz
def fCmp (p : Int → Int → Bool) : PyData → PyData → Option PyData
  | .int i, .int j => some (.bool (p i j))
  | _, _ => none
def fLt := fCmp fun i j => decide (i < j)
def fLe := fCmp fun i j => decide (i ≤ j)
def fGt := fCmp fun i j => decide (j < i)
def fGe := fCmp fun i j => decide (j ≤ i)
theorem o_cmp {p : Int → Int → Bool} : Op2 X hs (rI0 fun i j => .bl (p i j)) (fCmp p) := by
  intro d e z x y G H Q gh hz hx hy q
  unfold fCmp at hz
  split at hz
  · cases hz; cases hx; cases hy
    exact ⟨_, _, rfl, rfl, q G H _ (.refl gh) rfl⟩
  · cases hz
theorem o_lt : Op2 X hs (rI0 fun i j => .bl (decide (i < j))) fLt := o_cmp
theorem o_le : Op2 X hs (rI0 fun i j => .bl (decide (i ≤ j))) fLe := o_cmp
theorem o_gt : Op2 X hs (rI0 fun i j => .bl (decide (j < i))) fGt := o_cmp
theorem o_ge : Op2 X hs (rI0 fun i j => .bl (decide (j ≤ i))) fGe := o_cmp
def isNone : PyData → Bool
  | .none => true
  | _ => false
def fIs : PyData → PyData → Option PyData
  | d, .none => some (.bool (isNone d))
  | _, _ => none
def fIsNot : PyData → PyData → Option PyData
  | d, .none => some (.bool (!isNone d))
  | _, _ => none
theorem isNone_dec {K : PySem.W.Frag} {G H : Hp} {d : PyData} {x : V} (h : Ro K hs G H d x) : decide (x = .non) = isNone d := by
  cases d with
  | none => cases h; rfl
  | bool _ => cases h; rfl
  | int _ => cases h; rfl
  | str _ => cases h; rfl
  | list _ => obtain ⟨a, xs, rfl, _⟩ := h; rfl
  | tuple _ => obtain ⟨a, xs, rfl, _⟩ := h; rfl
  | dict _ =>
    rcases h with (⟨a, ns, _, rfl, _⟩ | ⟨a, ks, rfl, _⟩ | ⟨a, ks, rfl, _⟩ | ⟨a, dx, c, vs, rfl, _⟩) | ⟨a, o, rfl, _⟩ <;> rfl
theorem o_is : Op2 X hs (fun x y H Q => y = .non ∧ Q (.bl (decide (x = .non))) H) fIs := by
  intro d e z x y G H Q gh hz hx hy q
  unfold fIs at hz
  split at hz
  · cases hz; cases hy
    exact ⟨rfl, by rw [isNone_dec hx]; exact q G H _ (.refl gh) rfl⟩
  · cases hz
theorem o_isnot : Op2 X hs (fun x y H Q => y = .non ∧ Q (.bl (!decide (x = .non))) H) fIsNot := by
  intro d e z x y G H Q gh hz hx hy q
  unfold fIsNot at hz
  split at hz
  · cases hz; cases hy
    exact ⟨rfl, by rw [isNone_dec hx]; exact q G H _ (.refl gh) rfl⟩
  · cases hz
/-- x in a list of any data; x in a tuple of flat items -/
def flatD : PyData → Bool
  | .none | .bool _ | .int _ | .str _ => true
  | _ => false
def fIn (neg : Bool) : PyData → PyData → Option PyData
  | d, .list ds => if SeqAt.shaped d && SeqAt.shaped (.list ds) then some (.bool (if neg then !ds.any fun z => PyData.eqv z d else ds.any fun z => PyData.eqv z d)) else none
  | d, .tuple ds => if flatD d && ds.all flatD then some (.bool (if neg then !ds.any fun z => PyData.eqv z d else ds.any fun z => PyData.eqv z d)) else none
  | .str x, .str y => some (.bool (if neg then !(!(Builtin.Str.occurrences y x 0 y.length 1).isEmpty) else !(Builtin.Str.occurrences y x 0 y.length 1).isEmpty))
  | d, .dict kvs => if isDc kvs && okK kvs d then some (.bool (if neg then !(getKV kvs d).isSome else (getKV kvs d).isSome)) else none
  | _, _ => none
theorem rv_isDc {K : PySem.W.Frag} {G : Hp} {kvs : List (PyData × PyData)} {x : V} (ok : ∀ k, noTx k = true → hs k = nhash k) (hd : isDc kvs = true) (h : Rv K G (.dict kvs) x) : ∃ a o, x = .ref a ∧ G a = some o ∧ DcO hs K G kvs a o := by
  rcases h with ⟨a, ns, h1, rfl, _⟩ | ⟨a, ks, rfl, h1, h2⟩ | ⟨a, xs, rfl, h1, h0, hn, h2⟩ | ⟨a, dx, c, vs, rfl, h1, _, h2⟩
  · unfold scr at h1
    injection h1 with h1
    subst h1
    cases hd
  · exact ⟨a, _, rfl, h1, .inl ⟨ks, rfl, h2⟩⟩
  · exact ⟨a, _, rfl, h1, .inr ⟨xs, (rawN_hs fun x hx => ok _ (hn x hx)).symm, h0, h2⟩⟩
  · cases kvs with
    | nil => cases h2
    | cons p r =>
      obtain ⟨k, d⟩ := p
      obtain ⟨x, r', e, ⟨e2, _⟩, _⟩ := h2
      cases e
      subst e2
      cases hd
theorem ro_dict {K : PySem.W.Frag} {G H : Hp} {kvs : List (PyData × PyData)} {x : V} (ok : ∀ k, noTx k = true → hs k = nhash k) (gh : Same G H) (hd : isDc kvs = true) (h : Ro K hs G H (.dict kvs) x) : ∃ a o, x = .ref a ∧ H a = some o ∧ DcO hs K G kvs a o := by
  rcases h with h | h
  · obtain ⟨a, o, h1, h2, h3⟩ := rv_isDc ok hd h
    exact ⟨a, o, h1, gh _ _ h2, h3⟩
  · exact h
theorem wh_ok {k : NestedKey} (h : noTx k = true) : wh X k = nhash k := nhash_eq k h
theorem ro_okK {K : PySem.W.Frag} {G H : Hp} {kvs : List (PyData × PyData)} {d : PyData} {x : V} (hk : okK kvs d = true) (h : Ro K hs G H d x) : Rv K G d x := by
  rcases okK_or hk with q | q
  · cases d <;> first | exact h | (unfold isFl keyD at q; cases q)
  · cases d <;> first | exact h | cases q
theorem ro_flat {K : PySem.W.Frag} {G H : Hp} {d : PyData} {x : V} (hd : flatD d = true) (h : Ro K hs G H d x) : Rv K G d x := by
  cases d <;> first | (cases hd; done) | exact h
theorem eqV_eqv {K : PySem.W.Frag} {G : Hp} {d e : PyData} {x y : V} (hd : flatD d = true) (he : flatD e = true) (h : Rv K G d x) (k : Rv K G e y) : flatV x = true ∧ eqV x y = PyData.eqv d e := by
  cases d <;> first | (cases hd; done) | skip
  all_goals cases e <;> first | (cases he; done) | skip
  all_goals (cases h; cases k; refine ⟨rfl, ?_⟩; simp only [eqV, PyData.eqv])
theorem inV_eqv {K : PySem.W.Frag} {G : Hp} {d : PyData} {x : V} (hd : flatD d = true) (h : Rv K G d x) : ∀ {ds : List PyData} {xs : List V}, ds.all flatD = true → RvA K G ds xs → xs.all flatV = true ∧ inV x xs = ds.any fun z => PyData.eqv z d
  | [], _, _, e => by cases e; exact ⟨rfl, rfl⟩
  | e :: ds, _, hf, ⟨y, r, rfl, k1, k2⟩ => by
    rw [List.all_cons, Bool.and_eq_true] at hf
    obtain ⟨a1, a2⟩ := eqV_eqv hf.1 hd k1 h
    obtain ⟨b1, b2⟩ := inV_eqv hd h hf.2 k2
    refine ⟨by rw [List.all_cons, a1, b1]; rfl, ?_⟩
    unfold inV at b2 ⊢
    rw [List.any_cons, List.any_cons, b2, a2]
theorem o_in : Op2 X (wh X) (fun x y H Q => ((rInD X.K x y H Q ∨ rIn X.K false x y H Q) ∨ ∃ i j, x = .str i ∧ y = .str j ∧ Q (.bl (!(Builtin.Str.occurrences j i 0 j.length 1).isEmpty)) H) ∨ rInDD X false x y H Q) (fIn false) := by
  intro d e z x y G H Q gh hz hx hy q
  unfold fIn at hz
  split at hz
  · split at hz
    · rename_i h
      rw [Bool.and_eq_true] at h
      cases hz
      exact .inl (.inl (.inl ⟨_, _, Ro.dp gh h.1 hx, Ro.dp gh h.2 hy, h.1, h.2, q G H _ (.refl gh) rfl⟩))
    · cases hz
  · split at hz
    · rename_i h
      rw [Bool.and_eq_true] at h
      cases hz
      obtain ⟨p, xs, rfl, h1, h2⟩ := hy
      obtain ⟨a1, a2⟩ := inV_eqv h.1 (ro_flat h.1 hx) h.2 h2
      have fx : flatV x = true := by
        cases d <;> first | (cases h.1; done) | (cases hx; rfl)
      refine .inl (.inl (.inr ⟨p, xs, rfl, .inr (same_t gh h1), fx, a1, ?_⟩))
      rw [a2]
      exact q G H _ (.refl gh) rfl
    · cases hz
  · cases hz; cases hx; cases hy
    exact .inl (.inr ⟨_, _, rfl, rfl, q G H _ (.refl gh) rfl⟩)
  · split at hz
    · rename_i h
      rw [Bool.and_eq_true] at h
      cases hz
      obtain ⟨a, o, rfl, h1, h2⟩ := ro_dict (fun _ => wh_ok) gh h.1 hy
      exact .inr ⟨G, _, d, a, rfl, ⟨o, h1, h2, gh, ro_okK h.2 hx, h.2⟩, q G H _ (.refl gh) rfl⟩
    · cases hz
  · cases hz
theorem o_notin : Op2 X (wh X) (fun x y H Q => ((rNotInD X.K x y H Q ∨ rIn X.K true x y H Q) ∨ ∃ i j, x = .str i ∧ y = .str j ∧ Q (.bl (!(!(Builtin.Str.occurrences j i 0 j.length 1).isEmpty))) H) ∨ rInDD X true x y H Q) (fIn true) := by
  intro d e z x y G H Q gh hz hx hy q
  unfold fIn at hz
  split at hz
  · split at hz
    · rename_i h
      rw [Bool.and_eq_true] at h
      cases hz
      exact .inl (.inl (.inl ⟨_, _, Ro.dp gh h.1 hx, Ro.dp gh h.2 hy, h.1, h.2, q G H _ (.refl gh) rfl⟩))
    · cases hz
  · split at hz
    · rename_i h
      rw [Bool.and_eq_true] at h
      cases hz
      obtain ⟨p, xs, rfl, h1, h2⟩ := hy
      obtain ⟨a1, a2⟩ := inV_eqv h.1 (ro_flat h.1 hx) h.2 h2
      have fx : flatV x = true := by
        cases d <;> first | (cases h.1; done) | (cases hx; rfl)
      refine .inl (.inl (.inr ⟨p, xs, rfl, .inr (same_t gh h1), fx, a1, ?_⟩))
      rw [a2]
      exact q G H _ (.refl gh) rfl
    · cases hz
  · cases hz; cases hx; cases hy
    exact .inl (.inr ⟨_, _, rfl, rfl, q G H _ (.refl gh) rfl⟩)
  · split at hz
    · rename_i h
      rw [Bool.and_eq_true] at h
      cases hz
      obtain ⟨a, o, rfl, h1, h2⟩ := ro_dict (fun _ => wh_ok) gh h.1 hy
      exact .inr ⟨G, _, d, a, rfl, ⟨o, h1, h2, gh, ro_okK h.2 hx, h.2⟩, q G H _ (.refl gh) rfl⟩
    · cases hz
  · cases hz
end
section
variable {X : Cx} {TG : TGx} {W : WX} {a b c : Expr} {da db dc : M Arg} {pos : Pos}
/-! the rules by name -/
theorem dx_add (ha : DO X TG W a da) (hb : DO X TG W b db) : DX X TG W (.BinOp a .Add b pos) (xBin fAdd da db) := dx_bin ((op_add.or op_add_str).or (op_catA.or op_cat)) ox_add ha hb
theorem dx_mul (ha : DO X TG W a da) (hb : DO X TG W b db) : DX X TG W (.BinOp a .Mult b pos) (xBin fMul da db) := dx_bin (op_mul.or (op_repT.or op_rep)) ox_mul ha hb
theorem de_sub (ha : DO X TG W a da) (hb : DO X TG W b db) : DE X TG W (.BinOp a .Sub b pos) (dBin fSub da db) := de_bin op_sub o_sub ha hb
theorem de_div (ha : DO X TG W a da) (hb : DO X TG W b db) : DE X TG W (.BinOp a .FloorDiv b pos) (dBin fDiv da db) := de_bin op_fdiv o_div ha hb
theorem de_mod (ha : DO X TG W a da) (hb : DO X TG W b db) : DE X TG W (.BinOp a .Mod b pos) (dBin fMod da db) := de_bin op_mod o_mod ha hb
theorem de_pow (ha : DO X TG W a da) (hb : DO X TG W b db) : DE X TG W (.BinOp a .Pow b pos) (dBin fPow da db) := de_bin op_pow o_pow ha hb
/-- a comparison: as a value and as a test -/
structure DCmp (X : Cx) (TG : TGx) (W : WX) (e : Expr) (d : M PyData) : Prop where
  ve : DE X TG W e d
  vt : DT X TG W e (d.bind asB)
theorem dc_of {op : CmpOp} {r : R2} {f : PyData → PyData → Option PyData} (ho : OpR X (compareOp op) r) (hf : Op2 X TG.hs r f) (hm : behindInMarks op b = false) (ha : DO X TG W a da) (hb : DO X TG W b db) : DCmp X TG W (.Compare a [op] [b] pos) (dBin f da db) := ⟨de_cmp ho hf hm ha hb, dt_cmp ho hf hm ha hb⟩
theorem dc_eq (hu : X.A.units + 65 < cLine) (hm : behindInMarks .Eq b = false) (ha : DO X TG W a da) (hb : DO X TG W b db) : DCmp X TG W (.Compare a [.Eq] [b] pos) (dBin fEq da db) := dc_of (op_eqD (by omega)) o_eq hm ha hb
theorem dc_ne (hu : X.A.units + 65 < cLine) (hm : behindInMarks .NotEq b = false) (ha : DO X TG W a da) (hb : DO X TG W b db) : DCmp X TG W (.Compare a [.NotEq] [b] pos) (dBin fNe da db) := dc_of (op_neD (by omega)) o_ne hm ha hb
theorem dc_lt (hm : behindInMarks .Lt b = false) (ha : DO X TG W a da) (hb : DO X TG W b db) : DCmp X TG W (.Compare a [.Lt] [b] pos) (dBin fLt da db) := dc_of op_lt o_lt hm ha hb
theorem dc_le (hm : behindInMarks .LtE b = false) (ha : DO X TG W a da) (hb : DO X TG W b db) : DCmp X TG W (.Compare a [.LtE] [b] pos) (dBin fLe da db) := dc_of op_le o_le hm ha hb
theorem dc_gt (hm : behindInMarks .Gt b = false) (ha : DO X TG W a da) (hb : DO X TG W b db) : DCmp X TG W (.Compare a [.Gt] [b] pos) (dBin fGt da db) := dc_of op_gt o_gt hm ha hb
theorem dc_ge (hm : behindInMarks .GtE b = false) (ha : DO X TG W a da) (hb : DO X TG W b db) : DCmp X TG W (.Compare a [.GtE] [b] pos) (dBin fGe da db) := dc_of op_ge o_ge hm ha hb
theorem dc_is (hm : behindInMarks .Is b = false) (ha : DO X TG W a da) (hb : DO X TG W b db) : DCmp X TG W (.Compare a [.Is] [b] pos) (dBin fIs da db) := dc_of op_isN o_is hm ha hb
theorem dc_isnot (hm : behindInMarks .IsNot b = false) (ha : DO X TG W a da) (hb : DO X TG W b db) : DCmp X TG W (.Compare a [.IsNot] [b] pos) (dBin fIsNot da db) := dc_of op_notN o_isnot hm ha hb
theorem dc_in (hu : X.A.units + 65 < cLine) (hm : behindInMarks .In b = false) (ha : DO X TG W a da) (hb : DO X TG W b db) (hw : TG.hs = wh X := by rfl) : DCmp X TG W (.Compare a [.In] [b] pos) (dBin (fIn false) da db) := dc_of ((((op_inD hu).or op_in_seq).or op_in_str).or (op_in_dd hu)) (hw ▸ o_in) hm ha hb
theorem dc_notin (hu : X.A.units + 65 < cLine) (hm : behindInMarks .NotIn b = false) (ha : DO X TG W a da) (hb : DO X TG W b db) (hw : TG.hs = wh X := by rfl) : DCmp X TG W (.Compare a [.NotIn] [b] pos) (dBin (fIn true) da db) := dc_of ((((op_notInD hu).or op_notIn_seq).or op_notin_str).or (op_notin_dd hu)) (hw ▸ o_notin) hm ha hb
/-- a op b op' c -/
def dChain (f g : PyData → PyData → Option PyData) (a b c : M Arg) : M PyData := a.bind fun x => b.bind fun y r => match reso r x, reso r y with
  | some d, some e => ((M.opt (f d e)).bind fun z => (asB z).bind fun k => if k then c.bind fun u r => (match reso r y, reso r u with
    | some e, some w => M.opt (g e w) r
    | _, _ => .st) else .ret (.bool false)) r
  | _, _ => .st
theorem rd_chain {r r' : R2} {f g : PyData → PyData → Option PyData} (hf : Op2 X TG.hs r f) (hg : Op2 X TG.hs r' g) {s : L2.St} {H : Hp} {Q : VK} (h : rd X.K TG W (RE X.K) (dChain f g da db dc) s H Q) :
    tChain r r' (fun s H Q => rd X.K TG W (RO X.K s) da s H Q) (fun s H Q => rd X.K TG W (RO X.K s) db s H Q) (fun s H Q => rd X.K TG W (RO X.K s) dc s H Q) s H Q := by
  obtain ⟨B, F, G0, G, r0, i0, p0⟩ := rd_bind (R1 := RO X.K s) h
  refine ⟨B, F, G0, G, r0, i0, post_imp (fun x H1 q => ?_) _ p0⟩
  obtain ⟨B, F, G0, G1, r1, d, i1, v1, p1⟩ := q
  refine ⟨B, F, G0, G1, r1, i1, post_imp (fun y H2 q => ?_) _ (post_bind (R1 := RO X.K s) _ p1)⟩
  obtain ⟨G2, r2, e, e2, i2, v2, p2⟩ := q
  have p2 : post X.K TG W (RE X.K) B F G0 G2 s Q (match reso r2 d, reso r2 e with
    | some d, some e' => ((M.opt (f d e')).bind fun z => (asB z).bind fun k => if k then dc.bind fun u r => (match reso r e, reso r u with
      | some e, some w => M.opt (g e w) r
      | _, _ => .st) else .ret (.bool false)) r2
    | _, _ => .st) := p2
  cases hd : reso r2 d with
  | none => rw [hd] at p2; exact p2.elim
  | some du =>
    cases he : reso r2 e with
    | none => rw [hd, he] at p2; exact p2.elim
    | some eu =>
      rw [hd, he] at p2
      cases hz : f du eu with
      | none => unfold M.bind at p2; simp only [hz] at p2; exact p2.elim
      | some z =>
        refine hf du eu z x y G2 H2 _ i2.gh hz (ro_of i2 (v1.mono e2) hd) (ro_of i2 v2 he) fun G3 H3 v g3 rv => ?_
        have p2 : post X.K TG W (RE X.K) B F G0 G2 s Q (((M.opt (f du eu)).bind fun z => (asB z).bind fun k => if k then dc.bind fun u r => (match reso r e, reso r u with
          | some e, some w => M.opt (g e w) r
          | _, _ => .st) else .ret (.bool false)) r2) := p2
        rw [hz] at p2
        have p2 : post X.K TG W (RE X.K) B F G0 G2 s Q (((asB z).bind fun k => if k then dc.bind fun u r => (match reso r e, reso r u with
          | some e, some w => M.opt (g e w) r
          | _, _ => .st) else .ret (.bool false)) r2) := p2
        cases z with
        | bool k =>
          have rv : v = .bl k := rv
          refine ⟨k, rv, ?_⟩
          have i3 := i2.grow g3
          cases k with
          | false => exact p2 G3 H3 (.bl false) g3.g i3 rfl
          | true =>
            have p2 : post X.K TG W (RE X.K) B F G0 G2 s Q ((dc.bind fun u r => (match reso r e, reso r u with
              | some e, some w => M.opt (g e w) r
              | _, _ => .st)) r2) := p2
            refine ⟨B, F, G0, G3, r2, i3, post_imp (fun u H4 q => ?_) _ (post_bind (R1 := RO X.K s) _ (post_mono g3.g _ p2))⟩
            obtain ⟨G4, r4, e', e4, i4, v4, p4⟩ := q
            have p4 : post X.K TG W (RE X.K) B F G0 G4 s Q (match reso r4 e, reso r4 e' with
              | some e, some w => M.opt (g e w) r4
              | _, _ => .st) := p4
            cases he4 : reso r4 e with
            | none => rw [he4] at p4; exact p4.elim
            | some eu4 =>
              cases hu4 : reso r4 e' with
              | none => rw [he4, hu4] at p4; exact p4.elim
              | some uu =>
                rw [he4, hu4] at p4
                cases hw : g eu4 uu with
                | none => simp only [hw] at p4; exact p4.elim
                | some w =>
                  simp only [hw] at p4
                  exact hg eu4 uu w y u G4 H4 Q i4.gh hw (ro_of i4 (v2.mono (g3.g.trans e4)) he4) (ro_of i4 v4 hu4) fun G5 H5 v g5 rv => p4 G5 H5 v g5.g (i4.grow g5) rv
        | none => exact p2.elim
        | int _ => exact p2.elim
        | str _ => exact p2.elim
        | list _ => exact p2.elim
        | tuple _ => exact p2.elim
        | dict _ => exact p2.elim
theorem dc_chain {op op' : CmpOp} {r r' : R2} {f g : PyData → PyData → Option PyData} (ho : OpR X (compareOp op) r) (ho' : OpR X (compareOp op') r') (hf : Op2 X TG.hs r f) (hg : Op2 X TG.hs r' g) (ha : DO X TG W a da) (hb : DO X TG W b db) (hc : DO X TG W c dc)
    (hm : lastMarks [op, op'] [b, c] = false := by with_unfolding_all rfl) : DCmp X TG W (.Compare a [op, op'] [b, c] pos) (dChain f g da db dc) :=
  ⟨PE_imp (pe_chain ho ho' ha hb hc hm) fun s H Q h => rd_chain hf hg h, PT_imp (pt_chain ho ho' ha hb hc hm) fun s H Q h => rd_chain hf hg (rd_asB h)⟩
theorem dc_lele (ha : DO X TG W a da) (hb : DO X TG W b db) (hc : DO X TG W c dc) (hm : lastMarks [.LtE, .LtE] [b, c] = false := by with_unfolding_all rfl) : DCmp X TG W (.Compare a [.LtE, .LtE] [b, c] pos) (dChain fLe fLe da db dc) := dc_chain op_le op_le o_le o_le ha hb hc hm
theorem dc_lelt (ha : DO X TG W a da) (hb : DO X TG W b db) (hc : DO X TG W c dc) (hm : lastMarks [.LtE, .Lt] [b, c] = false := by with_unfolding_all rfl) : DCmp X TG W (.Compare a [.LtE, .Lt] [b, c] pos) (dChain fLe fLt da db dc) := dc_chain op_le op_lt o_le o_lt ha hb hc hm
end
end TW

end
section
namespace TW
open PySem PySem.Spec PyProof.Rows L2

theorem RvA.atI {K : PySem.W.Frag} {G : Hp} {ds : List PyData} {xs : List V} {i : Int} {d : PyData} (h : RvA K G ds xs) (e : L2.atI ds i = some d) : ∃ x, L2.atI xs i = some x ∧ Rv K G d x := by
  unfold L2.atI at e ⊢
  rw [h.len]
  cases q : ixN ds.length i with
  | none => rw [q] at e; cases e
  | some j => rw [q] at e; exact h.at e
/-! ### subscripts -/
def fIx : PyData → PyData → Option PyData
  | .list ds, .int i => atI ds i
  | .tuple ds, .int i => atI ds i
  | .str z, .int i => if z.length ≤ sizeLine then (atI z.cps.toList i).map fun c => .str ⟨#[c]⟩ else none
  | .dict [(.none, .list ds)], .int i => atI ds i
  | .dict kvs, d => if isDc kvs && okK kvs d then getKV kvs d else none
  | _, _ => none
theorem scr_list {ds : List PyData} {ns : List Int} (h : PyData.dict [(.none, .list ds)] = scr ns) : ds = ns.map PyData.int := by
  unfold scr at h
  injection h with h
  injection h with h _
  injection h with _ h
  injection h
theorem rv_scr {K : PySem.W.Frag} {G : Hp} {ds : List PyData} {x : V} (h : Rv K G (.dict [(.none, .list ds)]) x) : ∃ (a : Addr) (ns : List Int), ds = ns.map PyData.int ∧ x = .ref a ∧ SqL K G a (ns.map V.int) := by
  unfold Rv at h
  rcases h with ⟨a, ns, h1, h2, h3⟩ | ⟨a, ks, _, _, ⟨y, r, _, h2, _⟩⟩ | ⟨a, xs, _, _, _, _, ⟨y, r, _, h2, _⟩⟩ | ⟨a, dx, c, vs, _, _, _, ⟨y, r, e, h2, h3⟩⟩
  · exact ⟨a, ns, scr_list h1, h2, h3⟩
  · cases h2.1
  · cases h2.2.2.1
  · cases e
    obtain ⟨_, h2⟩ := h2
    obtain ⟨_, _, h2, _⟩ := h2
    cases h2
theorem ro_scr {K : PySem.W.Frag} {hs : NestedKey → Int} {G H : Hp} {ds : List PyData} {x : V} (h : Ro K hs G H (.dict [(.none, .list ds)]) x) : ∃ (a : Addr) (ns : List Int), ds = ns.map PyData.int ∧ x = .ref a ∧ SqL K G a (ns.map V.int) :=
  rv_scr (h.elim id fun ⟨a, o, _, _, D⟩ => by
    rcases D with ⟨ks, _, ⟨y, r, _, h2, _⟩⟩ | ⟨xs, _, _, ⟨y, r, _, h2, _⟩⟩
    · cases h2.1
    · cases h2.2.2.1)
theorem o_ix {X : Cx} : Op2 X (wh X) (fun x y H Q => rIx X.K x y H Q ∨ rIxDD X x y H Q) fIx := by
  intro d e z x y G H Q gh hz hx hy q
  unfold fIx at hz
  split at hz
  · cases hy
    obtain ⟨p, us, rfl, h1, h2⟩ := hx
    obtain ⟨v, k1, k2⟩ := h2.atI hz
    exact .inl (.inl ⟨p, us, _, v, rfl, rfl, .inl (.inl h1), k1, q G H v (.refl gh) k2⟩)
  · cases hy
    obtain ⟨p, us, rfl, h1, h2⟩ := hx
    obtain ⟨v, k1, k2⟩ := h2.atI hz
    exact .inl (.inr (.inl ⟨p, us, _, v, rfl, rfl, same_t gh h1, k1, q G H v (.refl gh) k2⟩))
  · split at hz
    · rename_i hl
      cases hx; cases hy
      rename_i s i
      cases hc : atI s.cps.toList i with
      | none => rw [hc] at hz; cases hz
      | some c =>
        rw [hc] at hz; cases hz
        exact .inl (.inr (.inr ⟨_, _, c, rfl, rfl, hl, hc, q G H _ (.refl gh) rfl⟩))
    · cases hz
  · cases hy
    obtain ⟨a, ns, rfl, rfl, h3⟩ := ro_scr hx
    obtain ⟨v, k1, k2⟩ := (RvA.ints (K := X.K) (G := G) (ns := ns)).atI hz
    exact .inl (.inl ⟨a, _, _, v, rfl, rfl, gh.seq h3, k1, q G H v (.refl gh) k2⟩)
  · split at hz
    · rename_i h
      rw [Bool.and_eq_true] at h
      obtain ⟨a, o, rfl, h1, h2⟩ := ro_dict (fun _ => wh_ok) gh h.1 hx
      exact .inr ⟨G, _, _, a, z, rfl, ⟨o, h1, h2, gh, ro_okK h.2 hy, h.2⟩, hz, fun v hv => q G H v (.refl gh) hv⟩
    · cases hz
  · cases hz
section
variable {X : Cx} {TG : TGx} {W : WX} {a b e : Expr} {es : List Expr} {da db dc : M Arg} {pos p2 : Pos} {lo hi : Option Expr}
theorem de_ix (ha : DO X TG W a da) (hb : DO X TG W b db) (hs : PlainIx b) (hw : TG.hs = wh X := by rfl) (hu : X.A.units + 65 < cLine := by assumption) : DE X TG W (.Subscript a b pos) (dBin fIx da db) := PE_imp (pe_ix (ix_seq.or (ix_dd hu)) ha hb hs) fun s H Q h => tOp_of (hw ▸ o_ix) h
/-! ### slices -/
abbrev Part := M (Option Int)
def pNo : Part := .ret none
def pAt (d : M PyData) : Part := d.bind fun x => match x with
  | .int i => .ret (some i)
  | _ => .st
def ROI : RL (Option Int) (Option Int) := fun _ a b => a = b
def DP (X : Cx) (TG : TGx) (W : WX) (e : Option Expr) (d : Part) : Prop := PO X e (rd X.K TG W ROI d)
theorem dp_no : DP X TG W none pNo := ⟨fun pins s σ H Q I h => po_none.run pins s σ H Q I (rd_ret (b := none) (R := ROI) h fun _ => rfl)⟩
theorem dp_at {d : M PyData} (h : DE X TG W e d) : DP X TG W (some e) (pAt d) := ⟨fun pins s σ H Q I q => (po_some h).run pins s σ H Q I (by
  obtain ⟨B, F, G0, G, r, i, p⟩ := rd_bind (R1 := RE X.K) q
  refine ⟨B, F, G0, G, r, i, post_imp (fun x H1 q => ?_) _ p⟩
  obtain ⟨B, F, G0, G1, r1, a, i1, v1, p1⟩ := q
  cases a with
  | int i => exact ⟨i, v1, p1 G1 H1 _ (.refl _) i1 rfl⟩
  | none => exact p1.elim
  | bool _ => exact p1.elim
  | str _ => exact p1.elim
  | list _ => exact p1.elim
  | tuple _ => exact p1.elim
  | dict _ => exact p1.elim)⟩
def cutD (ds : List PyData) (lo hi : Option Int) : List PyData := (ds.drop (HT.sIx ds.length 0 lo)).take (HT.sIx ds.length ds.length hi - HT.sIx ds.length 0 lo)
theorem RvA.cut {K : PySem.W.Frag} {G : Hp} {ds : List PyData} {xs : List V} {lo hi : Option Int} (h : RvA K G ds xs) : RvA K G (cutD ds lo hi) (cutV xs lo hi) := by
  unfold cutD cutV
  rw [h.len]
  exact (h.drop _).take _
def fSl (lo hi : Option Int) : PyData → Option Rz
  | .list ds => some (.l (cutD ds lo hi))
  | .tuple ds => some (.v (.tuple (cutD ds lo hi)))
  | .str z => if z.length ≤ sizeLine then some (.v (.str (cutS z lo hi))) else none
  | _ => none
def xSl (a : M Arg) (lo hi : Part) : M Rz := a.bind fun x => lo.bind fun l => hi.bind fun h r => match reso r x with
  | some d => (M.opt (fSl l h d) : M Rz) r
  | none => .st
theorem dx_sl {dl dh : Part} (ha : DO X TG W a da) (hl : DP X TG W lo dl) (hh : DP X TG W hi dh) : DX X TG W (.Subscript a (.Slice lo hi none p2) pos) (xSl da dl dh) := PE_imp (pe_slice (sl_list.or (sl_tupA.or sl_str)) ha hl hh) fun s H Q h => by
  obtain ⟨B, F, G0, G, r0, i0, p0⟩ := rdX_bind (R1 := RO X.K s) h
  refine ⟨B, F, G0, G, r0, i0, post_imp (fun x H1 q => ?_) _ p0⟩
  obtain ⟨B, F, G0, G1, r1, d, i1, v1, p1⟩ := q
  obtain ⟨B, F, G0, G1, r1, i1, v1, p1⟩ : ∃ B F G0 G r, SR X.K TG B F G0 G H1 r s ∧ RO X.K s G d x ∧ postX X.K TG W B F G0 G s Q ((dl.bind fun l => dh.bind fun h r => match reso r d with
    | some d => (M.opt (fSl l h d) : M Rz) r
    | none => .st) r) := ⟨B, F, G0, G1, r1, i1, v1, p1⟩
  refine ⟨B, F, G0, G1, r1, i1, ?_⟩
  unfold M.bind at p1
  cases hr : dl r1 with
  | ex x r2 => rw [hr] at p1; exact p1
  | st => rw [hr] at p1; exact p1
  | ok l r2 =>
    rw [hr] at p1
    intro G2 H2 l' e2 i2 v2
    have v2 : l = l' := v2
    subst v2
    refine ⟨B, F, G0, G2, r2, i2, ?_⟩
    have p1 : postX X.K TG W B F G0 G1 s Q ((dh r2).bind fun h r => match reso r d with
      | some d => (M.opt (fSl l h d) : M Rz) r
      | none => .st) := p1
    cases hr3 : dh r2 with
    | ex x r3 => rw [hr3] at p1; exact fun G' H' c dx e => p1 G' H' c dx (e2.trans e)
    | st => rw [hr3] at p1; exact p1
    | ok h r3 =>
      rw [hr3] at p1
      intro G3 H3 h' e3 i3 v3
      have v3 : h = h' := v3
      subst v3
      have p1 : postX X.K TG W B F G0 G1 s Q (match reso r3 d with
        | some d => (M.opt (fSl l h d) : M Rz) r3
        | none => .st) := p1
      cases hd : reso r3 d with
      | none => rw [hd] at p1; exact p1.elim
      | some u =>
        have ru := ro_of i3 (v1.mono (e2.trans e3)) hd
        rw [hd] at p1
        have e13 := e2.trans e3
        cases u with
        | list ds =>
          obtain ⟨p, us, rfl, h1, h2⟩ := ru
          refine .inl ⟨p, us, rfl, .inl (.inl h1), fun q hq => ?_⟩
          obtain ⟨i4, fr⟩ := i3.newl hq h2.cut
          exact p1 _ _ _ e13 i4 fr
        | tuple ds =>
          have ru : Rv X.K G3 (.tuple ds) x := ru
          obtain ⟨p, us, rfl, h1, h2⟩ := ru
          refine .inr (.inl ⟨p, us, rfl, same_t i3.gh h1, fun hw => ?_, fun hw q hq => ?_⟩)
          · have e : cutD ds l h = ds := by
              unfold cutD
              rw [h2.len] at hw
              rw [hw.1, hw.2, List.drop_zero]
              simp
            exact p1 G3 H3 _ e13 i3 ⟨p, us, rfl, h1, by rw [e]; exact h2⟩
          · have g := Grow.new i3.gh hq (.tup (cutV us l h)) (fun _ z => by cases z)
            exact p1 _ _ _ (e13.trans g.g) (i3.grow g) ⟨q, _, rfl, .inl (.inl upd_same), (RvA.mono g.g _ _ h2).cut⟩
        | str z =>
          have ru : x = .str z := ru
          have p1 : postX X.K TG W B F G0 G1 s Q ((M.opt (if z.length ≤ sizeLine then some (Rz.v (.str (cutS z l h))) else none) : M Rz) r3) := p1
          split at p1
          · rename_i hz
            exact .inr (.inr ⟨z, ru, hz, p1 G3 H3 _ e13 i3 rfl⟩)
          · exact p1.elim
        | none => exact p1.elim
        | bool _ => exact p1.elim
        | int _ => exact p1.elim
        | dict _ => exact p1.elim

/-! ### built-in functions -/
def resA (r : List Sl) : List Arg → Option (List PyData)
  | [] => some []
  | a :: as => match reso r a, resA r as with
    | some d, some ds => some (d :: ds)
    | _, _ => none
def RoA (K : PySem.W.Frag) (hs : NestedKey → Int) (G H : Hp) : List PyData → List V → Prop
  | [], xs => xs = []
  | d :: ds, xs => ∃ x r, xs = x :: r ∧ Ro K hs G H d x ∧ RoA K hs G H ds r
theorem roA_of {K : PySem.W.Frag} {TG : TGx} {B : List (Nat × Addr)} {F G0 G H : Hp} {r : List Sl} {s : L2.St} (i : SR K TG B F G0 G H r s) : ∀ {as : List Arg} {ds : List PyData} {xs : List V}, RArg K s G as xs → resA r as = some ds → RoA K TG.hs G H ds xs
  | [], _, _, h, e => by cases e; exact h
  | a :: as, ds, xs, h, e => by
    have e : (match reso r a, resA r as with
      | some d, some ds => some (d :: ds)
      | _, _ => none) = some ds := e
    cases h1 : reso r a with
    | none => rw [h1] at e; cases e
    | some d =>
      cases h2 : resA r as with
      | none => rw [h1, h2] at e; cases e
      | some es =>
        rw [h1, h2] at e
        cases e
        cases a with
        | v d' => obtain ⟨x, q, rfl, k1, k2⟩ := h; exact ⟨x, q, rfl, ro_of i (a := .v d') k1 h1, roA_of i k2 h2⟩
        | io j => obtain ⟨x, q, rfl, k1, k2⟩ := h; exact ⟨x, q, rfl, ro_of i (a := .io j) k1 h1, roA_of i k2 h2⟩
def aO (d : M Arg) (r : M (List Arg)) : M (List Arg) := d.bind fun x => r.bind fun xs => .ret (x :: xs)
theorem da_o {d : M Arg} {r : M (List Arg)} (he : DO X TG W e d) (hr : DA X TG W es r) (hs : starEach (e :: es) X.env = (false, eval e X.env) :: starEach es X.env := by rfl) : DA X TG W (e :: es) (aO d r) := PA_imp (pa_cons he hr hs) fun s H Q h => by
  obtain ⟨B, F, G0, G, z, i, p⟩ := rd_bind (R1 := RO X.K s) h
  refine ⟨B, F, G0, G, z, i, post_imp (fun x H1 q => ?_) _ p⟩
  obtain ⟨B, F, G0, G1, r1, a, i1, v1, p1⟩ := q
  refine ⟨B, F, G0, G1, r1, i1, post_imp (fun xs H2 q => ?_) _ (post_bind (R1 := RArg X.K s) _ p1)⟩
  obtain ⟨G2, r2, as, e2, i2, v2, p2⟩ := q
  refine p2 G2 H2 _ (.refl _) i2 ?_
  cases a with
  | v d => exact ⟨x, xs, rfl, Rv.mono e2 _ _ v1, v2⟩
  | io j => exact ⟨x, xs, rfl, v1, v2⟩
/-- a rule for values -/
def OpA (X : Cx) (hs : NestedKey → Int) (r : List V → Hp → VK → Prop) (f : List PyData → Option Rz) : Prop :=
  ∀ (ds : List PyData) (z : Rz) (xs : List V) (G H : Hp) (Q : VK), Same G H → f ds = some z → RoA X.K hs G H ds xs →
    (∀ kvs, z = .x (.d kvs) → ∀ p o, H p = none → DcO hs X.K G kvs p o → Q (.ref p) (upd H p o)) → (∀ d', z = .v d' → ∀ G' H' v, Grow G H G' H' → Rv X.K G' d' v → Q v H') → (∀ ds, z = .l ds → ∀ H' p ys, Same H H' → H' p = none → RvA X.K G ds ys → Q (.ref p) (upd H' p (.lst ys))) → r xs H Q
def xFn (f : List PyData → Option Rz) (ra : M (List Arg)) : M Rz := ra.bind fun as r => match resA r as with
  | some ds => (M.opt (f ds) : M Rz) r
  | none => .st
theorem rdX_fn {r : List V → Hp → VK → Prop} {f : List PyData → Option Rz} {ra : M (List Arg)} (hf : OpA X TG.hs r f) {s : L2.St} {H : Hp} {Q : VK} (h : rdX X.K TG W (xFn f ra) s H Q) : tCB r (fun s H Q => rd X.K TG W (RArg X.K s) ra s H Q) s H Q := by
  obtain ⟨B, F, G0, G, r0, i0, p0⟩ := rdX_bind (R1 := RArg X.K s) h
  refine ⟨B, F, G0, G, r0, i0, post_imp (fun xs H1 q => ?_) _ p0⟩
  obtain ⟨B, F, G0, G1, r1, as, i1, v1, p1⟩ := q
  have p1 : postX X.K TG W B F G0 G1 s Q (match resA r1 as with
    | some ds => (M.opt (f ds) : M Rz) r1
    | none => .st) := p1
  cases hd : resA r1 as with
  | none => rw [hd] at p1; exact p1.elim
  | some ds =>
    rw [hd] at p1
    cases hz : f ds with
    | none => simp only [hz] at p1; exact p1.elim
    | some z =>
      simp only [hz] at p1
      refine hf ds z xs G1 H1 Q i1.gh hz (roA_of i1 v1 hd) (fun kvs hk p o hp hv => ?_) (fun d' e G' H' v g rv => ?_) fun es e H' p ys hh hp hv => ?_
      · subst hk
        obtain ⟨i3, fr⟩ := i1.newx (w := .x (.d kvs)) hp hv
        exact p1 _ _ _ (.refl _) i3 fr
      · subst e
        exact p1 G' H' v g.g (i1.grow g) rv
      · subst e
        have i2 := i1.grow ⟨.refl _, hh, i1.gh.trans hh, fun _ _ q => .inl q, fun _ _ q => q⟩
        obtain ⟨i3, fr⟩ := i2.newl hp hv
        exact p1 _ _ _ (.refl _) i3 fr
theorem dx_fnB {id : String} {x : Str} {r : List V → Hp → VK → Prop} {f : List PyData → Option Rz} {ra : M (List Arg)} (hc : CallR X (.builtin id) r) (hf : OpA X TG.hs r f) (hg : Gl X x) (hm : X.mg x = none) (hv : bootBuiltins x = some (.builtin id)) (ha : DA X TG W (e :: es) ra) (hn : x ≠ "__name__" := by decide) (hdb : (x == ("__debug__" : Str)) = false := by decide)
    (he : starEach (e :: es) X.env = (false, eval e X.env) :: starEach es X.env := by rfl) (hpl : (backTo pos (starEach es X.env)).any (·.1) = false := by rfl) : DX X TG W (.Call (.Name x p2) (e :: es) [] pos) (xFn f ra) := PE_imp (pe_callB hc hg hm hv ha hn hdb he hpl) fun s H Q q => rdX_fn hf q
theorem dx_fnT {T : String} {x : Str} {r : List V → Hp → VK → Prop} {f : List PyData → Option Rz} {ra : M (List Arg)} (hc : CallR X (.type T) r) (hf : OpA X TG.hs r f) (hg : Gl X x) (hm : X.mg x = none) (hv : bootBuiltins x = some (.type T)) (ha : DA X TG W (e :: es) ra) (hn : x ≠ "__name__" := by decide) (hdb : (x == ("__debug__" : Str)) = false := by decide)
    (he : starEach (e :: es) X.env = (false, eval e X.env) :: starEach es X.env := by rfl) (hpl : (backTo pos (starEach es X.env)).any (·.1) = false := by rfl) : DX X TG W (.Call (.Name x p2) (e :: es) [] pos) (xFn f ra) := PE_imp (pe_callTy hc hg hm hv ha hn hdb he hpl) fun s H Q q => rdX_fn hf q
end
def fLen : List PyData → Option Rz
  | [.list ds] => some (.v (.int ds.length))
  | [.tuple ds] => some (.v (.int ds.length))
  | [.str z] => if z.length ≤ sizeLine then some (.v (.int z.length)) else none
  | [.dict [(.none, .list ds)]] => some (.v (.int ds.length))
  | [.dict kvs] => if isDc kvs then some (.v (.int kvs.length)) else none
  | _ => none
def fTuple : List PyData → Option Rz
  | [.list ds] => some (.v (.tuple ds))
  | [.tuple ds] => some (.v (.tuple ds))
  | _ => none
def fList : List PyData → Option Rz
  | [.list ds] => some (.l ds)
  | [.tuple ds] => some (.l ds)
  | _ => none
def fToInt : List PyData → Option Rz
  | [.int i] => some (.v (.int i))
  | [.bool k] => some (.v (.int (if k then 1 else 0)))
  | [.str a] => match PySem.intText? a with
    | some n => if a.length ≤ 640 then some (.v (.int n)) else none
    | none => none
  | _ => none
def fToStr : List PyData → Option Rz
  | [.int i] => if i.natAbs.log2 < 1920 then some (.v (.str (toString i))) else none
  | [.str a] => some (.v (.str a))
  | _ => none
def fAbs : List PyData → Option Rz
  | [.int i] => some (.v (.int (if i < 0 then -i else i)))
  | _ => none
def intsOf : List PyData → Option (List Int)
  | [] => some []
  | .int i :: ds => (intsOf ds).map (i :: ·)
  | _ => none
def maxI : List Int → Int
  | [] => 0
  | [x] => x
  | x :: y :: r => let m := maxI (y :: r); if m < x then x else m
def minI : List Int → Int
  | [] => 0
  | [x] => x
  | x :: y :: r => let m := minI (y :: r); if x < m then x else m
def fSum : List PyData → Option Rz
  | [.list ds] => (intsOf ds).map fun ns => .v (.int ns.sum)
  | _ => none
def fMax : List PyData → Option Rz
  | [.list ds] => match intsOf ds with
    | some (n :: ns) => some (.v (.int (maxI (n :: ns))))
    | _ => none
  | [.int i, .int j] => some (.v (.int (if j > i then j else i)))
  | _ => none
def fMin : List PyData → Option Rz
  | [.list ds] => match intsOf ds with
    | some (n :: ns) => some (.v (.int (minI (n :: ns))))
    | _ => none
  | [.int i, .int j] => some (.v (.int (if j < i then j else i)))
  | _ => none
theorem maxI_is : ∀ {ns : List Int}, ns ≠ [] → maxI ns ∈ ns ∧ ∀ y ∈ ns, y ≤ maxI ns
  | [], h => absurd rfl h
  | [x], _ => ⟨by simp [maxI], by simp [maxI]⟩
  | x :: y :: r, _ => by
    obtain ⟨h1, h2⟩ := maxI_is (ns := y :: r) (by simp)
    have e : maxI (x :: y :: r) = if maxI (y :: r) < x then x else maxI (y :: r) := rfl
    rw [e]
    by_cases hx : maxI (y :: r) < x
    · rw [if_pos hx]
      refine ⟨List.mem_cons_self, fun z hz => ?_⟩
      rcases List.mem_cons.mp hz with z1 | z1
      · omega
      · have := h2 z z1; omega
    · rw [if_neg hx]
      refine ⟨List.mem_cons_of_mem _ h1, fun z hz => ?_⟩
      rcases List.mem_cons.mp hz with z1 | z1
      · omega
      · exact h2 z z1
theorem minI_is : ∀ {ns : List Int}, ns ≠ [] → minI ns ∈ ns ∧ ∀ y ∈ ns, minI ns ≤ y
  | [], h => absurd rfl h
  | [x], _ => ⟨by simp [minI], by simp [minI]⟩
  | x :: y :: r, _ => by
    obtain ⟨h1, h2⟩ := minI_is (ns := y :: r) (by simp)
    have e : minI (x :: y :: r) = if x < minI (y :: r) then x else minI (y :: r) := rfl
    rw [e]
    by_cases hx : x < minI (y :: r)
    · rw [if_pos hx]
      refine ⟨List.mem_cons_self, fun z hz => ?_⟩
      rcases List.mem_cons.mp hz with z1 | z1
      · omega
      · have := h2 z z1; omega
    · rw [if_neg hx]
      refine ⟨List.mem_cons_of_mem _ h1, fun z hz => ?_⟩
      rcases List.mem_cons.mp hz with z1 | z1
      · omega
      · exact h2 z z1
theorem ints_rv {K : PySem.W.Frag} {G : Hp} : ∀ {ds : List PyData} {ns : List Int} {xs : List V}, intsOf ds = some ns → RvA K G ds xs → xs = ns.map V.int
  | [], ns, xs, e, h => by cases e; exact h
  | .int i :: ds, ns, xs, e, ⟨x, r, h1, h2, h3⟩ => by
    have e : (intsOf ds).map (i :: ·) = some ns := e
    cases q : intsOf ds with
    | none => rw [q] at e; cases e
    | some ms =>
      rw [q] at e
      cases e
      have h2 : x = .int i := h2
      subst h1 h2
      rw [ints_rv q h3]
      rfl
  | .none :: ds, _, _, e, _ => by cases e
  | .bool _ :: ds, _, _, e, _ => by cases e
  | .str _ :: ds, _, _, e, _ => by cases e
  | .list _ :: ds, _, _, e, _ => by cases e
  | .tuple _ :: ds, _, _, e, _ => by cases e
  | .dict _ :: ds, _, _, e, _ => by cases e
section
variable {X : Cx} {K : PySem.W.Frag} {G H : Hp}
theorem RoA.one {d : PyData} {xs : List V} (h : RoA K hs G H [d] xs) : ∃ x, xs = [x] ∧ Ro K hs G H d x := by
  obtain ⟨x, r, rfl, h1, h2⟩ := h
  cases h2
  exact ⟨x, rfl, h1⟩
theorem RoA.two {d e : PyData} {xs : List V} (h : RoA K hs G H [d, e] xs) : ∃ x y, xs = [x, y] ∧ Ro K hs G H d x ∧ Ro K hs G H e y := by
  obtain ⟨x, r, rfl, h1, y, r2, rfl, h2, h3⟩ := h
  cases h3
  exact ⟨x, y, rfl, h1, h2⟩
theorem oa_len : OpA X (wh X) (fun xs H Q => (∃ x n, xs = [x] ∧ LenV X.K x H n ∧ Q (.int n) H) ∨ rLenDD X xs H Q) fLen := by
  intro ds z xs G H Q gh hz h qx qv ql
  unfold fLen at hz
  split at hz
  · cases hz
    obtain ⟨x, rfl, a, ys, rfl, h1, h2⟩ := h.one
    exact .inl ⟨_, _, rfl, .inl ⟨ys, .inl (.inl h1), rfl⟩, by rw [h2.len]; exact qv _ rfl G H _ (.refl gh) rfl⟩
  · cases hz
    obtain ⟨x, rfl, hx⟩ := h.one
    obtain ⟨a, ys, rfl, h1, h2⟩ := (show Rv X.K G (.tuple _) x from hx)
    exact .inl ⟨_, _, rfl, .inr ⟨ys, same_t gh h1, rfl⟩, by rw [h2.len]; exact qv _ rfl G H _ (.refl gh) rfl⟩
  · split at hz
    · rename_i hl
      cases hz
      obtain ⟨x, rfl, hx⟩ := h.one
      cases hx
      exact .inl ⟨_, _, rfl, ⟨hl, rfl⟩, qv _ rfl G H _ (.refl gh) rfl⟩
    · cases hz
  · cases hz
    obtain ⟨x, rfl, hx⟩ := h.one
    obtain ⟨a, ns, rfl, rfl, h3⟩ := ro_scr hx
    refine .inl ⟨_, _, rfl, .inl ⟨_, gh.seq h3, rfl⟩, qv _ rfl G H _ (.refl gh) ?_⟩
    simp [Rv]
  · split at hz
    · rename_i hd
      cases hz
      obtain ⟨x, rfl, hx⟩ := h.one
      obtain ⟨a, o, rfl, h1, h2⟩ := ro_dict (fun _ => wh_ok) gh hd hx
      exact .inr ⟨G, _, a, o, rfl, h1, h2, gh, qv _ rfl G H _ (.refl gh) rfl⟩
    · cases hz
  · cases hz
theorem oa_tuple : OpA X hs (fun xs H Q => ∃ p ys, xs = [.ref p] ∧ ((SqL X.K H p ys ∧ ∀ l, H l = none → Q (.ref l) (upd H l (.tup ys))) ∨ (SqT X.K H p ys ∧ Q (.ref p) H))) fTuple := by
  intro ds z xs G H Q gh hz h qx qv ql
  unfold fTuple at hz
  split at hz
  · cases hz
    obtain ⟨x, rfl, a, ys, rfl, h1, h2⟩ := h.one
    refine ⟨_, ys, rfl, .inl ⟨.inl (.inl h1), fun l hl => ?_⟩⟩
    have g := Grow.new gh hl (.tup ys) (fun _ z => by cases z)
    exact qv _ rfl _ _ _ g ⟨l, ys, rfl, .inl (.inl upd_same), RvA.mono g.g _ _ h2⟩
  · cases hz
    obtain ⟨x, rfl, hx⟩ := h.one
    obtain ⟨a, ys, rfl, h1, h2⟩ := (show Rv X.K G (.tuple _) x from hx)
    exact ⟨_, ys, rfl, .inr ⟨same_t gh h1, qv _ rfl G H _ (.refl gh) ⟨_, _, rfl, h1, h2⟩⟩⟩
  · cases hz
theorem oa_list : OpA X hs (fun xs H Q => ∃ p ys, xs = [.ref p] ∧ (SqL X.K H p ys ∨ SqT X.K H p ys) ∧ ∀ l, H l = none → Q (.ref l) (upd H l (.lst ys))) fList := by
  intro ds z xs G H Q gh hz h qx qv ql
  unfold fList at hz
  split at hz
  · cases hz
    obtain ⟨x, rfl, a, ys, rfl, h1, h2⟩ := h.one
    exact ⟨_, ys, rfl, .inl (.inl (.inl h1)), fun l hl => ql _ rfl H l ys (.refl _) hl h2⟩
  · cases hz
    obtain ⟨x, rfl, hx⟩ := h.one
    obtain ⟨a, ys, rfl, h1, h2⟩ := (show Rv X.K G (.tuple _) x from hx)
    exact ⟨_, ys, rfl, .inr (same_t gh h1), fun l hl => ql _ rfl H l ys (.refl _) hl h2⟩
  · cases hz
theorem oa_int : OpA X hs (fun xs H Q => ((∃ i, xs = [.int i] ∧ Q (.int i) H) ∨ ∃ k, xs = [.bl k] ∧ Q (.int (if k then 1 else 0)) H) ∨ ∃ a n, xs = [.str a] ∧ PySem.intText? a = some n ∧ a.length ≤ 640 ∧ Q (.int n) H) fToInt := by
  intro ds z xs G H Q gh hz h qx qv ql
  unfold fToInt at hz
  split at hz
  · cases hz
    obtain ⟨x, rfl, hx⟩ := h.one
    cases hx
    exact .inl (.inl ⟨_, rfl, qv _ rfl G H _ (.refl gh) rfl⟩)
  · cases hz
    obtain ⟨x, rfl, hx⟩ := h.one
    cases hx
    exact .inl (.inr ⟨_, rfl, qv _ rfl G H _ (.refl gh) rfl⟩)
  · obtain ⟨x, rfl, hx⟩ := h.one
    cases hx
    split at hz
    · rename_i hn
      split at hz
      · rename_i hl
        cases hz
        exact .inr ⟨_, _, rfl, hn, hl, qv _ rfl G H _ (.refl gh) rfl⟩
      · cases hz
    · cases hz
  · cases hz
theorem oa_str : OpA X hs (fun xs H Q => (∃ i, xs = [.int i] ∧ i.natAbs.log2 < 1920 ∧ Q (.str (toString i)) H) ∨ ∃ a, xs = [.str a] ∧ Q (.str a) H) fToStr := by
  intro ds z xs G H Q gh hz h qx qv ql
  unfold fToStr at hz
  split at hz
  · split at hz
    · rename_i hl
      cases hz
      obtain ⟨x, rfl, hx⟩ := h.one
      cases hx
      exact .inl ⟨_, rfl, hl, qv _ rfl G H _ (.refl gh) rfl⟩
    · cases hz
  · cases hz
    obtain ⟨x, rfl, hx⟩ := h.one
    cases hx
    exact .inr ⟨_, rfl, qv _ rfl G H _ (.refl gh) rfl⟩
  · cases hz
theorem oa_abs : OpA X hs (fun xs H Q => ∃ i, xs = [.int i] ∧ Q (.int (if i < 0 then -i else i)) H) fAbs := by
  intro ds z xs G H Q gh hz h qx qv ql
  unfold fAbs at hz
  split at hz
  · cases hz
    obtain ⟨x, rfl, hx⟩ := h.one
    cases hx
    exact ⟨_, rfl, qv _ rfl G H _ (.refl gh) rfl⟩
  · cases hz
theorem oa_sum : OpA X hs (rSum X.K) fSum := by
  intro ds z xs G H Q gh hz h qx qv ql
  unfold fSum at hz
  split at hz
  · rename_i es
    cases hn : intsOf es with
    | none => rw [hn] at hz; cases hz
    | some ns =>
      rw [hn] at hz
      cases hz
      obtain ⟨x, rfl, a, ys, rfl, h1, h2⟩ := h.one
      have e := ints_rv hn h2
      subst e
      exact ⟨a, ns, rfl, .inl (.inl h1), qv _ rfl G H _ (.refl gh) rfl⟩
  · cases hz
theorem oa_max : OpA X hs (fun xs H Q => rMax X.K xs H Q ∨ ∃ i j, xs = [.int i, .int j] ∧ Q (.int (if j > i then j else i)) H) fMax := by
  intro ds z xs G H Q gh hz h qx qv ql
  unfold fMax at hz
  split at hz
  · rename_i es
    split at hz
    · rename_i n ns hn
      cases hz
      obtain ⟨x, rfl, a, ys, rfl, h1, h2⟩ := h.one
      have e := ints_rv hn h2
      subst e
      refine .inl ⟨a, n :: ns, rfl, .inl (.inl h1), by simp, fun m hm hy => ?_⟩
      obtain ⟨k1, k2⟩ := maxI_is (ns := n :: ns) (by simp)
      have e : m = maxI (n :: ns) := by have := hy _ k1; have := k2 _ hm; omega
      rw [e]
      exact qv _ rfl G H _ (.refl gh) rfl
    · cases hz
  · cases hz
    obtain ⟨x, y, rfl, hx, hy⟩ := h.two
    cases hx; cases hy
    exact .inr ⟨_, _, rfl, qv _ rfl G H _ (.refl gh) rfl⟩
  · cases hz
theorem oa_min : OpA X hs (fun xs H Q => rMin X.K xs H Q ∨ ∃ i j, xs = [.int i, .int j] ∧ Q (.int (if j < i then j else i)) H) fMin := by
  intro ds z xs G H Q gh hz h qx qv ql
  unfold fMin at hz
  split at hz
  · rename_i es
    split at hz
    · rename_i n ns hn
      cases hz
      obtain ⟨x, rfl, a, ys, rfl, h1, h2⟩ := h.one
      have e := ints_rv hn h2
      subst e
      refine .inl ⟨a, n :: ns, rfl, .inl (.inl h1), by simp, fun m hm hy => ?_⟩
      obtain ⟨k1, k2⟩ := minI_is (ns := n :: ns) (by simp)
      have e : m = minI (n :: ns) := by have := hy _ k1; have := k2 _ hm; omega
      rw [e]
      exact qv _ rfl G H _ (.refl gh) rfl
    · cases hz
  · cases hz
    obtain ⟨x, y, rfl, hx, hy⟩ := h.two
    cases hx; cases hy
    exact .inr ⟨_, _, rfl, qv _ rfl G H _ (.refl gh) rfl⟩
  · cases hz
end
section
variable {X : Cx} {TG : TGx} {W : WX} {a b e : Expr} {es : List Expr} {ra : M (List Arg)} {pos p2 : Pos}
theorem dx_len (hg : Gl X "len") (hm : X.mg "len" = none) (ha : DA X TG W [e] ra) (he : starEach [e] X.env = (false, eval e X.env) :: starEach [] X.env := by rfl) (hw : TG.hs = wh X := by rfl) : DX X TG W (.Call (.Name "len" p2) [e] [] pos) (xFn fLen ra) := dx_fnB (call_len.or call_lenDD) (hw ▸ oa_len) hg hm rfl ha (by decide) (by decide) he
theorem dx_tuple (hg : Gl X "tuple") (hm : X.mg "tuple" = none) (ha : DA X TG W [e] ra) (he : starEach [e] X.env = (false, eval e X.env) :: starEach [] X.env := by rfl) : DX X TG W (.Call (.Name "tuple" p2) [e] [] pos) (xFn fTuple ra) := dx_fnT call_tuple_of oa_tuple hg hm rfl ha (by decide) (by decide) he
theorem dx_list (hg : Gl X "list") (hm : X.mg "list" = none) (ha : DA X TG W [e] ra) (he : starEach [e] X.env = (false, eval e X.env) :: starEach [] X.env := by rfl) : DX X TG W (.Call (.Name "list" p2) [e] [] pos) (xFn fList ra) := dx_fnT call_list_of oa_list hg hm rfl ha (by decide) (by decide) he
theorem dx_int (hg : Gl X "int") (hm : X.mg "int" = none) (ha : DA X TG W [e] ra) (he : starEach [e] X.env = (false, eval e X.env) :: starEach [] X.env := by rfl) : DX X TG W (.Call (.Name "int" p2) [e] [] pos) (xFn fToInt ra) := dx_fnT (call_int1.or call_int_str) oa_int hg hm rfl ha (by decide) (by decide) he
theorem dx_str (hg : Gl X "str") (hm : X.mg "str" = none) (ha : DA X TG W [e] ra) (he : starEach [e] X.env = (false, eval e X.env) :: starEach [] X.env := by rfl) : DX X TG W (.Call (.Name "str" p2) [e] [] pos) (xFn fToStr ra) := dx_fnT (call_str_int.or SkE.call_str_str) oa_str hg hm rfl ha (by decide) (by decide) he
theorem dx_abs (hg : Gl X "abs") (hm : X.mg "abs" = none) (ha : DA X TG W [e] ra) (he : starEach [e] X.env = (false, eval e X.env) :: starEach [] X.env := by rfl) : DX X TG W (.Call (.Name "abs" p2) [e] [] pos) (xFn fAbs ra) := dx_fnB call_abs oa_abs hg hm rfl ha (by decide) (by decide) he
theorem dx_sum (hc : X.calm = true) (hg : Gl X "sum") (hm : X.mg "sum" = none) (ha : DA X TG W [e] ra) (he : starEach [e] X.env = (false, eval e X.env) :: starEach [] X.env := by rfl) : DX X TG W (.Call (.Name "sum" p2) [e] [] pos) (xFn fSum ra) := dx_fnB (cr_sum hc) oa_sum hg hm rfl ha (by decide) (by decide) he
theorem dx_max (hc : X.calm = true) (hg : Gl X "max") (hm : X.mg "max" = none) (ha : DA X TG W (e :: es) ra) (he : starEach (e :: es) X.env = (false, eval e X.env) :: starEach es X.env := by rfl) (hpl : (backTo pos (starEach es X.env)).any (·.1) = false := by rfl) : DX X TG W (.Call (.Name "max" p2) (e :: es) [] pos) (xFn fMax ra) := dx_fnB ((cr_max hc).or (call_max2 hc)) oa_max hg hm rfl ha (by decide) (by decide) he hpl
theorem dx_min (hc : X.calm = true) (hg : Gl X "min") (hm : X.mg "min" = none) (ha : DA X TG W (e :: es) ra) (he : starEach (e :: es) X.env = (false, eval e X.env) :: starEach es X.env := by rfl) (hpl : (backTo pos (starEach es X.env)).any (·.1) = false := by rfl) : DX X TG W (.Call (.Name "min" p2) (e :: es) [] pos) (xFn fMin ra) := dx_fnB ((cr_min hc).or (call_min2 hc)) oa_min hg hm rfl ha (by decide) (by decide) he hpl
end
end TW

end
section
namespace TW
open PySem PySem.Spec PyProof.Rows L2

/-! ### an own list is changed -/
/-- the slot's list -/
def ownAt (r : List Sl) (i : Nat) : Option (List PyData) := match r[i]?.bind Sl.own with
  | some (.l ds) => some ds
  | _ => none
/-- the slot's dict -/
def dicAt (r : List Sl) (i : Nat) : Option (List (PyData × PyData)) := match r[i]?.bind Sl.own with
  | some (.x (.d kvs)) => some kvs
  | _ => none
def setOw (r : List Sl) (i : Nat) (w : Ow) : List Sl := match r[i]? with
  | some x => r.set i (x.put w)
  | none => r
def setAt (r : List Sl) (i : Nat) (ds : List PyData) : List Sl := setOw r i (.l ds)
theorem ownAt_own {r : List Sl} {i : Nat} {ds : List PyData} (h : ownAt r i = some ds) : r[i]?.bind Sl.own = some (.l ds) := by
  unfold ownAt at h
  split at h
  · cases h; assumption
  · cases h
theorem dicAt_own {r : List Sl} {i : Nat} {ds : List (PyData × PyData)} (h : dicAt r i = some ds) : r[i]?.bind Sl.own = some (.x (.d ds)) := by
  unfold dicAt at h
  split at h
  · cases h; assumption
  · cases h
section
variable {K : PySem.W.Frag} {TG : TGx} {B : List (Nat × Addr)} {F G0 G H : Hp} {r : List Sl} {s : L2.St}
theorem SR.own_at (i : SR K TG B F G0 G H r s) {j : Nat} {ds : List PyData} (h : ownAt r j = some ds) : ∃ a xs, s[j]? = some (some (V.ref a)) ∧ H a = some (.lst xs) ∧ RvA K G ds xs :=
  let ⟨a, _, h1, h2, ⟨xs, e, h3⟩, _⟩ := i.owns j _ (ownAt_own h)
  ⟨a, xs, h1, by rw [h2, e], h3⟩
theorem SR.dic_at (i : SR K TG B F G0 G H r s) {j : Nat} {kvs : List (PyData × PyData)} (h : dicAt r j = some kvs) : ∃ a o, s[j]? = some (some (V.ref a)) ∧ H a = some o ∧ DcO TG.hs K G kvs a o ∧ G a = none :=
  let ⟨a, o, h1, h2, h3, h4, _⟩ := i.owns j _ (dicAt_own h)
  ⟨a, o, h1, h2, h3, h4⟩
theorem SR.ow_set (i : SR K TG B F G0 G H r s) {j : Nat} {w w' : Ow} {a : Addr} {o : HO} (h : r[j]?.bind Sl.own = some w) (hs : s[j]? = some (some (V.ref a))) (hv : OwR TG K G a w' o) : SR K TG B F G0 G (upd H a o) (setOw r j w') s := by
  unfold setOw
  cases q : r[j]? with
  | none => rw [q] at h; cases h
  | some x => rw [q] at h; exact i.wrO q h hs hv
theorem SR.own_set (i : SR K TG B F G0 G H r s) {j : Nat} {ds es : List PyData} {a : Addr} {ys : List V} (h : ownAt r j = some ds) (hs : s[j]? = some (some (V.ref a))) (hv : RvA K G es ys) : SR K TG B F G0 G (upd H a (.lst ys)) (setAt r j es) s := by
  exact i.ow_set (ownAt_own h) hs ⟨ys, rfl, hv⟩
end
/-- x.m(..) of an own list: f says the new list and the answer -/
def mOwn (i : Nat) (f : List PyData → List PyData → Option (List PyData × PyData)) (ra : M (List Arg)) : M PyData := fun r0 => if (ownAt r0 i).isSome then (aBind ra fun es r => match ownAt r i with
  | some ds => match f ds es with
    | some (ds', z) => .ok z (setAt r i ds')
    | none => .st
  | none => .st) r0 else .st
/-- such a method's rule -/
def OwnR (X : Cx) (m : V → List V → Hp → VK → Prop) (f : List PyData → List PyData → Option (List PyData × PyData)) : Prop :=
  ∀ (ds es ds' : List PyData) (z : PyData) (a : Addr) (xs ys : List V) (G H : Hp) (Q : VK), f ds es = some (ds', z) → H a = some (HO.lst xs) → RvA X.K G ds xs → RvA X.K G es ys → (∀ zs v, RvA X.K G ds' zs → Rv X.K G z v → Q v (upd H a (.lst zs))) → m (.ref a) ys H Q
section
variable {X : Cx} {TG : TGx} {W : WX} {o e : Expr} {es : List Expr} {ra : M (List Arg)} {pos apos px : Pos} {x : Str} {i : Nat}
theorem rd_own {m : V → List V → Hp → VK → Prop} {f : List PyData → List PyData → Option (List PyData × PyData)} (hf : OwnR X m f) {s : L2.St} {H : Hp} {Q : VK} (h : rd X.K TG W (RE X.K) (mOwn i f ra) s H Q) :
    tBM X.K "list" m (tVar i) (fun s H Q => rd X.K TG W (RArg X.K s) ra s H Q) s H Q := by
  obtain ⟨B, F, G0, G, z, ir, p⟩ := h
  unfold mOwn at p
  cases hz : ownAt z i with
  | none => rw [hz] at p; exact p.elim
  | some ds0 =>
    rw [hz] at p
    obtain ⟨a, xs0, h1, h2, _⟩ := ir.own_at hz
    refine ⟨_, h1, .inl ⟨rfl, xs0, .inl (.inl h2)⟩, ?_⟩
    obtain ⟨B, F, G0, G, z, i0, p⟩ := rd_args (⟨B, F, G0, G, z, ir, p⟩ : rd X.K TG W (RE X.K) (aBind ra fun es r => match ownAt r i with
      | some ds => match f ds es with
        | some (ds', z) => .ok z (setAt r i ds')
        | none => .st
      | none => .st) s H Q)
    refine ⟨B, F, G0, G, z, i0, post_imp (fun ys H2 q => ?_) _ p⟩
    obtain ⟨B, F, G0, G1, r1, es, i1, v1, p1⟩ := q
    cases ho : ownAt r1 i with
    | none => simp only [ho] at p1; exact p1.elim
    | some ds =>
      simp only [ho] at p1
      obtain ⟨a', xs, k1, k2, k3⟩ := i1.own_at ho
      rw [h1] at k1
      cases k1
      cases hz : f ds es with
      | none => simp only [hz] at p1; exact p1.elim
      | some w =>
        obtain ⟨ds', z⟩ := w
        simp only [hz] at p1
        exact hf ds es ds' z a xs ys G1 H2 Q hz k2 k3 v1 fun zs v hz hv => p1 G1 _ v (.refl _) (i1.own_set ho h1 hz) hv
def fAppend : List PyData → List PyData → Option (List PyData × PyData)
  | ds, [e] => if ds.length < sizeLine then some (ds ++ [e], .none) else none
  | _, _ => none
def fPop : List PyData → List PyData → Option (List PyData × PyData)
  | ds, [] => (ds[ds.length - 1]?).map fun z => (ds.dropLast, z)
  | _, _ => none
def fPopAt : List PyData → List PyData → Option (List PyData × PyData)
  | ds, [.int i] => if -(2 ^ 63) ≤ i ∧ i < 2 ^ 63 then match seqIndex? i ds.length with
    | some k => (ds[k]?).map fun z => (ds.eraseIdx k, z)
    | none => none else none
  | _, _ => none
def fInsert : List PyData → List PyData → Option (List PyData × PyData)
  | ds, [.int i, e] => if ds.length < sizeLine ∧ 0 ≤ i ∧ i < 2 ^ 63 then some (ds.take i.toNat ++ [e] ++ ds.drop i.toNat, .none) else none
  | _, _ => none
theorem RvA.dropLast {K : PySem.W.Frag} {G : Hp} {ds : List PyData} {xs : List V} (h : RvA K G ds xs) : RvA K G ds.dropLast xs.dropLast := by
  rw [List.dropLast_eq_take, List.dropLast_eq_take, h.len]
  exact h.take _
theorem RvA.erase {K : PySem.W.Frag} {G : Hp} : ∀ (k : Nat) {ds : List PyData} {xs : List V}, RvA K G ds xs → RvA K G (ds.eraseIdx k) (xs.eraseIdx k)
  | _, [], _, h => by cases h; exact rfl
  | 0, d :: ds, _, ⟨x, r, h1, _, h3⟩ => by subst h1; exact h3
  | k + 1, d :: ds, _, ⟨x, r, h1, h2, h3⟩ => by subst h1; exact ⟨x, _, rfl, h2, RvA.erase k h3⟩
theorem or_append : OwnR X rAppend fAppend := by
  intro ds es ds' z a xs ys G H Q hf h1 h2 h3 q
  unfold fAppend at hf
  split at hf
  · split at hf
    · rename_i hz
      cases hf
      obtain ⟨y, r, rfl, k1, k2⟩ := h3
      cases k2
      exact ⟨a, xs, y, rfl, rfl, h1, by rw [h2.len]; exact hz, q _ .non (h2.app (.one k1)) rfl⟩
    · cases hf
  · cases hf
theorem or_pop : OwnR X rPop fPop := by
  intro ds es ds' z a xs ys G H Q hf h1 h2 h3 q
  unfold fPop at hf
  split at hf
  · rename_i es0
    cases hz : ds[ds.length - 1]? with
    | none => rw [hz] at hf; cases hf
    | some y =>
      rw [hz] at hf
      cases hf
      cases h3
      obtain ⟨v, k1, k2⟩ := h2.at hz
      exact ⟨a, xs, v, rfl, rfl, h1, by rw [h2.len]; exact k1, q _ v h2.dropLast k2⟩
  · cases hf
theorem or_popAt : OwnR X rPopAt fPopAt := by
  intro ds es ds' z a xs ys G H Q hf h1 h2 h3 q
  unfold fPopAt at hf
  split at hf
  · split at hf
    · rename_i hi
      split at hf
      · rename_i k hk
        cases hz : ds[k]? with
        | none => rw [hz] at hf; cases hf
        | some y =>
          rw [hz] at hf
          cases hf
          obtain ⟨x, r, rfl, k1, k2⟩ := h3
          cases k1; cases k2
          obtain ⟨v, j1, j2⟩ := h2.at hz
          exact ⟨a, xs, _, k, v, rfl, rfl, h1, hi.1, hi.2, by rw [h2.len]; exact hk, j1, q _ v (h2.erase k) j2⟩
      · cases hf
    · cases hf
  · cases hf
theorem or_insert : OwnR X (fun x vs H Q => ∃ (l : Addr) (xs : List V) (i : Int) (y : V), x = .ref l ∧ vs = [.int i, y] ∧ H l = some (.lst xs) ∧ xs.length < sizeLine ∧ 0 ≤ i ∧ i < 2 ^ 63 ∧
    Q .non (upd H l (.lst (xs.take i.toNat ++ [y] ++ xs.drop i.toNat)))) fInsert := by
  intro ds es ds' z a xs ys G H Q hf h1 h2 h3 q
  unfold fInsert at hf
  split at hf
  · split at hf
    · rename_i hi
      cases hf
      obtain ⟨x, r, rfl, k1, y, r2, rfl, k2, k3⟩ := h3
      cases k1; cases k3
      exact ⟨a, xs, _, y, rfl, rfl, h1, by rw [h2.len]; exact hi.1, hi.2.1, hi.2.2, q _ .non (((h2.take _).app (.one k2)).app (h2.drop _)) rfl⟩
    · cases hf
  · cases hf
theorem de_append (ho : PE X (.Name x px) (tVar i)) (ha : DA X TG W (e :: es) ra) (hbase : attributeBase (.Name x px) "append" X.env (eval (.Name x px) X.env) = eval (.Name x px) X.env := by rfl)
    (hfew : ((backTo pos (starEach (e :: es) X.env)).all (fun x => !x.1) && (backToKw pos (keywordEach [] X.env)).all (fun x => x.1.isSome)
      && decide ((e :: es).length + ([] : List Keyword).length + (if ([] : List Keyword).isEmpty then 0 else 1) < 30)) = true := by rfl)
    (hline : (apos.endLine == pos.line) = true := by rfl) (hs : starEach (e :: es) X.env = (false, eval e X.env) :: starEach es X.env := by rfl) (hplain : (backTo pos (starEach es X.env)).any (·.1) = false := by rfl) :
    DE X TG W (.Call (.Attribute (.Name x px) "append" apos) (e :: es) [] pos) (mOwn i fAppend ra) := PE_imp (pe_bm F.plainAttrs_list F.slot_list_append F.type_list_append mt_append ho ha hbase hfew hline hs hplain) fun s H Q q => rd_own or_append q
theorem de_popAt (ho : PE X (.Name x px) (tVar i)) (ha : DA X TG W (e :: es) ra) (hbase : attributeBase (.Name x px) "pop" X.env (eval (.Name x px) X.env) = eval (.Name x px) X.env := by rfl)
    (hfew : ((backTo pos (starEach (e :: es) X.env)).all (fun x => !x.1) && (backToKw pos (keywordEach [] X.env)).all (fun x => x.1.isSome)
      && decide ((e :: es).length + ([] : List Keyword).length + (if ([] : List Keyword).isEmpty then 0 else 1) < 30)) = true := by rfl)
    (hline : (apos.endLine == pos.line) = true := by rfl) (hs : starEach (e :: es) X.env = (false, eval e X.env) :: starEach es X.env := by rfl) (hplain : (backTo pos (starEach es X.env)).any (·.1) = false := by rfl) :
    DE X TG W (.Call (.Attribute (.Name x px) "pop" apos) (e :: es) [] pos) (mOwn i fPopAt ra) := PE_imp (pe_bm F.plainAttrs_list F.slot_list_pop F.type_list_pop mt_popAt ho ha hbase hfew hline hs hplain) fun s H Q q => rd_own or_popAt q
theorem de_insert (ho : PE X (.Name x px) (tVar i)) (ha : DA X TG W (e :: es) ra) (hbase : attributeBase (.Name x px) "insert" X.env (eval (.Name x px) X.env) = eval (.Name x px) X.env := by rfl)
    (hfew : ((backTo pos (starEach (e :: es) X.env)).all (fun x => !x.1) && (backToKw pos (keywordEach [] X.env)).all (fun x => x.1.isSome)
      && decide ((e :: es).length + ([] : List Keyword).length + (if ([] : List Keyword).isEmpty then 0 else 1) < 30)) = true := by rfl)
    (hline : (apos.endLine == pos.line) = true := by rfl) (hs : starEach (e :: es) X.env = (false, eval e X.env) :: starEach es X.env := by rfl) (hplain : (backTo pos (starEach es X.env)).any (·.1) = false := by rfl) :
    DE X TG W (.Call (.Attribute (.Name x px) "insert" apos) (e :: es) [] pos) (mOwn i fInsert ra) := PE_imp (pe_bm F.plainAttrs_list F.slot_list_insert F.type_list_insert mt_insert ho ha hbase hfew hline hs hplain) fun s H Q q => rd_own or_insert q
theorem de_pop (ho : PE X (.Name x px) (tVar i)) (hbase : attributeBase (.Name x px) "pop" X.env (eval (.Name x px) X.env) = eval (.Name x px) X.env := by rfl) (hline : (apos.endLine == pos.line) = true := by rfl) :
    DE X TG W (.Call (.Attribute (.Name x px) "pop" apos) [] [] pos) (mOwn i fPop aNil) := PE_imp (pe_bm0 F.plainAttrs_list F.slot_list_pop F.type_list_pop mt_pop ho hbase hline) fun s H Q q => by
  obtain ⟨x, h1, h2, h3⟩ := rd_own or_pop q
  exact ⟨x, h1, h2, rd_ret (a := ([] : List Arg)) (b := ([] : List V)) (R := RArg X.K s) h3 fun _ => rfl⟩

/-! ### x[k] = e -/
def putAtD (i : Nat) (z k : PyData) : M Fl := fun r => match dicAt r i with
  | some kvs => if okK kvs k ∧ kvs.length < sizeLine then .ok .nx (setOw r i (.x (.d (putKV kvs k z)))) else .st
  | none => .st
def putAt (i : Nat) (z k : PyData) : M Fl := fun r => match ownAt r i with
  | some ds => match k with
    | .int k => match ixN ds.length k with
      | some j => .ok .nx (setAt r i (ds.set j z))
      | none => .st
    | _ => .st
  | none => .st
def tPut (i : Nat) (dk : M PyData) (z : PyData) : M Fl := dk.bind (putAt i z)
def tPutD (i : Nat) (dk : M PyData) (z : PyData) : M Fl := dk.bind (putAtD i z)
def sPut (i : Nat) (dk dv : M PyData) : M Fl := dv.bind fun z => tPut i dk z
theorem postS_bind {K : PySem.W.Frag} {α β : Type} {R : RL α β} {D : Ends} {B : List (Nat × Addr)} {F G0 G : Hp} {s : L2.St} {k : α → M Fl} : ∀ (x : Res α), postS K TG W B F G0 G D (x.bind k) →
    post K TG W R B F G0 G s (fun b H1 => ∃ G1 r1 a, Same G G1 ∧ SR K TG B F G0 G1 H1 r1 s ∧ R G1 a b ∧ postS K TG W B F G0 G1 D (k a r1)) x
  | .ok a r, h => fun G' H' b e i z => ⟨G', r, a, e, i, z, postS_mono e _ h⟩
  | .ex e r, h => fun G' H' c dx e' i' x => h G' H' s c dx e' i' x
  | .st, h => h
theorem post_tPut {tk : TE} {dk : M PyData} {B : List (Nat × Addr)} {F G0 G : Hp} {r : List Sl} {s : L2.St} {H : Hp} {D : Ends} {z : PyData} {v : V} (hk : ∀ s H Q, rd X.K TG W (RE X.K) dk s H Q → tk s H Q)
    (ir : SR X.K TG B F G0 G H r s) (hv : Rv X.K G z v) (p : postS X.K TG W B F G0 G D (tPut i dk z r)) (h0 : (ownAt r i).isSome = true) : gSub (tVar i) tk rSetL v s H D.nx := by
  obtain ⟨ds0, h0⟩ := Option.isSome_iff_exists.mp h0
  obtain ⟨a, xs0, h1, h2, _⟩ := ir.own_at h0
  refine ⟨_, h1, hk s H _ ⟨B, F, G0, G, r, ir, post_imp (fun x H1 q => ?_) _ (postS_bind (R := RE X.K) _ p)⟩⟩
  obtain ⟨G1, r1, k, e1, i1, v1, p1⟩ := q
  unfold putAt at p1
  cases ho : ownAt r1 i with
  | none => rw [ho] at p1; exact p1.elim
  | some ds =>
    rw [ho] at p1
    obtain ⟨a', xs, k1, k2, k3⟩ := i1.own_at ho
    rw [h1] at k1
    cases k1
    cases k with
    | int k =>
      have v1 : x = .int k := v1
      have p1 : postS X.K TG W B F G0 G1 D (match ixN ds.length k with
        | some j => .ok .nx (setAt r1 i (ds.set j z))
        | none => .st) := p1
      cases hj : ixN ds.length k with
      | none => rw [hj] at p1; exact p1.elim
      | some j =>
        rw [hj] at p1
        exact ⟨a, xs, k, j, rfl, v1, k2, by rw [k3.len]; exact hj, p1 G1 _ s (.refl _) (i1.own_set ho h1 (k3.set j (Rv.mono e1 _ _ hv)))⟩
    | none => exact p1.elim
    | bool _ => exact p1.elim
    | str _ => exact p1.elim
    | list _ => exact p1.elim
    | tuple _ => exact p1.elim
    | dict _ => exact p1.elim
theorem post_tPutD {tk : TE} {dk : M PyData} {B : List (Nat × Addr)} {F G0 G : Hp} {r : List Sl} {s : L2.St} {H : Hp} {D : Ends} {z : PyData} {v : V} (hw : TG.hs = wh X) (hk : ∀ s H Q, rd X.K TG W (RE X.K) dk s H Q → tk s H Q)
    (ir : SR X.K TG B F G0 G H r s) (hv : Rv X.K G z v) (p : postS X.K TG W B F G0 G D (tPutD i dk z r)) (h0 : (dicAt r i).isSome = true) : gSub (tVar i) tk (rSetDD X) v s H D.nx := by
  obtain ⟨ds0, h0⟩ := Option.isSome_iff_exists.mp h0
  obtain ⟨a, o0, h1, h2, _⟩ := ir.dic_at h0
  refine ⟨_, h1, hk s H _ ⟨B, F, G0, G, r, ir, post_imp (fun x H1 q => ?_) _ (postS_bind (R := RE X.K) _ p)⟩⟩
  obtain ⟨G1, r1, k, e1, i1, v1, p1⟩ := q
  unfold putAtD at p1
  cases ho : dicAt r1 i with
  | none => rw [ho] at p1; exact p1.elim
  | some kvs =>
    rw [ho] at p1
    obtain ⟨a', o, k1, k2, k3, k4⟩ := i1.dic_at ho
    rw [h1] at k1
    cases k1
    rw [hw] at k3
    have p1 : postS X.K TG W B F G0 G1 D (if okK kvs k ∧ kvs.length < sizeLine then .ok .nx (setOw r1 i (.x (.d (putKV kvs k z)))) else .st) := p1
    split at p1
    · rename_i hc
      refine ⟨G1, kvs, k, z, a, rfl, ⟨o, k2, k3, i1.gh, v1, hc.1⟩, k4, Rv.mono e1 _ _ hv, hc.2, fun o' D' => p1 G1 _ s (.refl _) (i1.ow_set (dicAt_own ho) h1 ?_)⟩
      show DcO TG.hs X.K G1 _ a o'
      rw [hw]
      exact D'
    · exact p1.elim
/-- x[k] = e -/
theorem ds_put {st : Stmt} {te tk : TE} {dk dv : M PyData} (hw : TG.hs = wh X) (h : PS X st (tAsg te (gSub (tVar i) tk fun o i v H Q => rSetL o i v H Q ∨ rSetDD X o i v H Q))) (hv : ∀ s H Q, rd X.K TG W (RE X.K) dv s H Q → te s H Q) (hk : ∀ s H Q, rd X.K TG W (RE X.K) dk s H Q → tk s H Q)
    (hm : ∀ s H (Q Q' : VK), (∀ x H, Q x H → Q' x H) → tk s H Q → tk s H Q') :
    DS X TG W st (dv.bind fun z r => if (ownAt r i).isSome then tPut i dk z r else if (dicAt r i).isSome then tPutD i dk z r else .st) := PS_imp h fun D s H q => by
  refine hv s H _ ?_
  obtain ⟨B, F, G0, G, r, ir, p⟩ := rdS_bind (R := RE X.K) q
  refine ⟨B, F, G0, G, r, ir, post_imp (fun x H1 q => ?_) _ p⟩
  obtain ⟨B, F, G0, G1, r1, z, i1, v1, p1⟩ := q
  split at p1
  · rename_i h0
    obtain ⟨w, h1, h2⟩ := post_tPut hk i1 v1 p1 h0
    exact ⟨w, h1, hm _ _ _ _ (fun _ _ q => .inl q) h2⟩
  · split at p1
    · rename_i h0
      obtain ⟨w, h1, h2⟩ := post_tPutD hw hk i1 v1 p1 h0
      exact ⟨w, h1, hm _ _ _ _ (fun _ _ q => .inr q) h2⟩
    · exact p1.elim
def sPutN (i : Nat) (dk dv : M PyData) : M Fl := dv.bind fun z r => if (ownAt r i).isSome then tPut i dk z r else if (dicAt r i).isSome then tPutD i dk z r else .st
theorem PSet.or {t u : TSet} (h : PSet X t) (k : PSet X u) : PSet X (fun o i v H Q => t o i v H Q ∨ u o i v H Q) := fun pins s σ H o i v ov iv w Q I r1 r2 r3 q =>
  q.elim (h pins s σ H o i v ov iv w Q I r1 r2 r3) (k pins s σ H o i v ov iv w Q I r1 r2 r3)
theorem ds_putN {e ke : Expr} {dk dv : M PyData} {spos : Pos} (ho : PE X (.Name x px) (tVar i)) (hv : DE X TG W e dv) (hk : DE X TG W ke dk)
    (ha : ∀ v, assign (.Subscript (.Name x px) ke pos) X.env v = (do
      let ov ← holding [v] (eval (.Name x px) X.env)
      let iv ← holding [v, ov] (eval ke X.env)
      standAt pos
      holding [v, ov, iv] (setItem ov iv v)
      release [v, ov, iv] []) := by intro _; rfl) (hs : swapsWithSole [.Subscript (.Name x px) ke pos] e spos.line X.env = pure false := by rfl) (hw : swappedStores [.Subscript (.Name x px) ke pos] e X.env = pure none := by rfl)
    (h1 : (assignEach [.Subscript (.Name x px) ke pos] X.env).map (·.2) = [assign (.Subscript (.Name x px) ke pos) X.env] := by rfl) (hW : TG.hs = wh X := by rfl) (hu : X.A.units + 65 < cLine := by assumption) :
    DS X TG W (.Assign [.Subscript (.Name x px) ke pos] e spos) (sPutN i dk dv) := ds_put hW (L2.ps_asg hv (pg_sub ho hk (PSet.or set_list (set_dd hu)) ha) hs hw h1) (fun s H Q q => q) (fun s H Q q => q) fun s H Q Q' w q => by
  obtain ⟨B, F, G0, G, r, i0, p⟩ := q
  exact ⟨B, F, G0, G, r, i0, post_imp w _ p⟩
end
/-! ### x op= e -/
def augV (i : Nat) (f : PyData → PyData → Option PyData) (z : PyData) : M Fl := fun r => match r[i]? with
  | some (.v d) => match f d z with
    | some w => .ok .nx (r.set i (.v w))
    | none => .st
  | _ => .st
def augL (i : Nat) (z : PyData) : M Fl := fun r => match ownAt r i with
  | some ds => match z with
    | .list es => if ds.length + es.length ≤ sizeLine then .ok .nx (setAt r i (ds ++ es)) else .st
    | _ => .st
  | none => .st
/-- x op= e at a name: a value, or an own list -/
def sAug (lst : Bool) (i : Nat) (f : PyData → PyData → Option PyData) (dv : M PyData) : M Fl := fun r0 => match r0[i]? with
  | some (.v _) => (dv.bind (augV i f)) r0
  | some (.l _) => if lst then (dv.bind (augL i)) r0 else .st
  | some (.io _) => if lst then (dv.bind (augL i)) r0 else .st
  | _ => .st
/-- in place: by values -/
def OpI (X : Cx) (lst : Bool) (r : TIp) (f : PyData → PyData → Option PyData) : Prop :=
  (∀ (d e z : PyData) (x y : V) (G H : Hp) (Q : VK), Same G H → f d e = some z → Rv X.K G d x → Rv X.K G e y → (∀ G' H' v, Grow G H G' H' → Rv X.K G' z v → Q v H') → r x y H Q) ∧
  (lst = true → ∀ (x y : V) (H : Hp) (Q : VK), rExt2 x y H Q → r x y H Q)
section
variable {X : Cx} {TG : TGx} {W : WX} {e : Expr} {pos px : Pos} {x : Str} {i : Nat}
theorem rv_self {K : PySem.W.Frag} {TG : TGx} {B : List (Nat × Addr)} {F G0 G H : Hp} {r : List Sl} {s : L2.St} (ir : SR K TG B F G0 G H r s) {d : PyData} {v : V} {j : Nat} (h : s[j]? = some (some v)) (hr : r[j]? = some (.v d)) : Rv K G d v := by
  obtain ⟨w, h1, h2⟩ := ir.vals j d hr
  rw [h] at h1
  cases h1
  exact h2
theorem ds_aug {lst : Bool} {op : Operator} {r : TIp} {f : PyData → PyData → Option PyData} {dv : M PyData} (hN : X.N.Nodup) (hi : X.N[i]? = some x) (hx : Loc X.env.scope x) (he : DE X TG W e dv) (ho : OpR X (inplaceOp op) r) (hf : OpI X lst r f) (hl : X.fn x = true ∨ X.env.scope.names.lookup x = some .local) :
    DS X TG W (.AugAssign (.Name x px) op e pos) (sAug lst i f dv) := PS_imp (L2.ps_aug hN hi hx he ho hl) fun D s H q => by
  obtain ⟨B, F, G0, G, z, ir, p⟩ := q
  unfold sAug at p
  have own : lst = true → ∀ ds, ownAt z i = some ds → postS X.K TG W B F G0 G D ((dv.bind (augL i)) z) → tAug i (rd X.K TG W (RE X.K) dv) r D s H := fun hlst ds h p => by
    obtain ⟨a, xs, h1, h2, h3⟩ := ir.own_at h
    refine ⟨_, h1, B, F, G0, G, z, ir, post_imp (fun y H1 q => ?_) _ (postS_bind (R := RE X.K) _ p)⟩
    obtain ⟨G1, r1, k, e1, i1, v1, p1⟩ := q
    unfold augL at p1
    cases hr : ownAt r1 i with
    | none => rw [hr] at p1; exact p1.elim
    | some ds =>
      rw [hr] at p1
      obtain ⟨a', us, k1, k2, k3⟩ := i1.own_at hr
      rw [h1] at k1
      cases k1
      cases k with
      | list es =>
        have p1 : postS X.K TG W B F G0 G1 D (if ds.length + es.length ≤ sizeLine then .ok .nx (setAt r1 i (ds ++ es)) else .st) := p1
        split at p1
        · rename_i hz
          obtain ⟨b, ws, rfl, j1, j2⟩ := v1
          refine hf.2 hlst _ _ _ _ ⟨a, b, us, ws, rfl, rfl, k2, i1.gh _ _ j1, by rw [k3.len, j2.len]; exact hz, ?_⟩
          have sv : s.set i (some (V.ref a)) = s := by
            refine List.ext_getElem? fun k => ?_
            by_cases e : i = k
            · subst e
              rw [List.getElem?_set_self (List.getElem?_eq_some_iff.mp h1).1, h1]
            · rw [List.getElem?_set_ne e]
          show D.nx (List.set s i (some (V.ref a))) _
          rw [sv]
          exact p1 G1 _ s (.refl _) (i1.own_set hr h1 (k3.app j2))
        · exact p1.elim
      | none => exact p1.elim
      | bool _ => exact p1.elim
      | str _ => exact p1.elim
      | int _ => exact p1.elim
      | tuple _ => exact p1.elim
      | dict _ => exact p1.elim
  split at p
  · rename_i d hd
    obtain ⟨v, h1, h2⟩ := ir.vals i d hd
    refine ⟨v, h1, B, F, G0, G, z, ir, post_imp (fun y H1 q => ?_) _ (postS_bind (R := RE X.K) _ p)⟩
    obtain ⟨G1, r1, k, e1, i1, v1, p1⟩ := q
    unfold augV at p1
    split at p1
    · rename_i d' hd'
      have hv := rv_self i1 h1 hd'
      split at p1
      · rename_i w hw
        refine hf.1 d' k w v y G1 H1 _ i1.gh hw hv v1 fun G' H' u g rv => ?_
        have hj : i < r1.length := (List.getElem?_eq_some_iff.mp hd').1
        exact p1 G' H' _ g.g ((i1.grow g).setv hj (fun y z => by rw [hd'] at z; cases z; rfl) rv)
      · exact p1.elim
    · exact p1.elim
  · rename_i ds hd
    split at p
    · rename_i hlst; exact own hlst ds (by unfold ownAt; rw [hd]; rfl) p
    · exact p.elim
  · rename_i ds hd
    split at p
    · rename_i hlst; exact own hlst ds (by unfold ownAt; rw [hd]; rfl) p
    · exact p.elim
  · exact p.elim
def gAdd : PyData → PyData → Option PyData
  | .int i, .int j => some (.int (i + j))
  | .str x, .str y => if x.length + y.length ≤ sizeLine then some (.str (x ++ y)) else none
  | _, _ => none
theorem oi_add : OpI X true (fun x y H Q => ((rI0 fun i j => .int (i + j)) x y H Q ∨ (∃ i j, x = .str i ∧ y = .str j ∧ i.length + j.length ≤ sizeLine ∧ Q (.str (i ++ j)) H)) ∨ rExt2 x y H Q) gAdd := by
  refine ⟨fun d e z x y G H Q gh hz hx hy q => ?_, fun _ x y H Q h => .inr h⟩
  unfold gAdd at hz
  split at hz
  · cases hz; cases hx; cases hy
    exact .inl (.inl ⟨_, _, rfl, rfl, q G H _ (.refl gh) rfl⟩)
  · split at hz
    · rename_i hl
      cases hz; cases hx; cases hy
      exact .inl (.inr ⟨_, _, rfl, rfl, hl, q G H _ (.refl gh) rfl⟩)
    · cases hz
  · cases hz
theorem oi_int {C : Int → Int → Prop} {c : Int → Int → Bool} {g : Int → Int → Int} (hc : ∀ i j, c i j = true → C i j) : OpI X false (rI C fun i j => .int (g i j)) (fInt c g) := by
  refine ⟨fun d e z x y G H Q gh hz hx hy q => ?_, fun h => by cases h⟩
  unfold fInt at hz
  split at hz
  · split at hz
    · rename_i h
      cases hz; cases hx; cases hy
      exact ⟨_, _, rfl, rfl, hc _ _ h, q G H _ (.refl gh) rfl⟩
    · cases hz
  · cases hz
theorem oi_sub : OpI X false (rI0 fun i j => .int (i - j)) fSub := by
  refine ⟨fun d e z x y G H Q gh hz hx hy q => ?_, fun h => by cases h⟩
  unfold fSub fInt at hz
  split at hz
  · cases hz; cases hx; cases hy
    exact ⟨_, _, rfl, rfl, q G H _ (.refl gh) rfl⟩
  · cases hz
def gMul := fInt (fun i j => decide ((-(2 ^ 64) < i ∧ i < 2 ^ 64) ∨ (-(2 ^ 64) < j ∧ j < 2 ^ 64))) (· * ·)
theorem oi_mul : OpI X false (rI CMul fun i j => .int (i * j)) gMul := oi_int fun i j h => (of_decide_eq_true h : (-(2 ^ 64) < i ∧ i < 2 ^ 64) ∨ (-(2 ^ 64) < j ∧ j < 2 ^ 64))
theorem ds_iadd {dv : M PyData} (hN : X.N.Nodup) (hi : X.N[i]? = some x) (hx : Loc X.env.scope x) (he : DE X TG W e dv) (hl : X.fn x = true ∨ X.env.scope.names.lookup x = some .local) : DS X TG W (.AugAssign (.Name x px) .Add e pos) (sAug true i gAdd dv) := ds_aug hN hi hx he ((iop_add.or iop_add_str).or iop_ext) oi_add hl
theorem ds_isub {dv : M PyData} (hN : X.N.Nodup) (hi : X.N[i]? = some x) (hx : Loc X.env.scope x) (he : DE X TG W e dv) (hl : X.fn x = true ∨ X.env.scope.names.lookup x = some .local) : DS X TG W (.AugAssign (.Name x px) .Sub e pos) (sAug false i fSub dv) := ds_aug hN hi hx he iop_sub oi_sub hl
theorem ds_imul {dv : M PyData} (hN : X.N.Nodup) (hi : X.N[i]? = some x) (hx : Loc X.env.scope x) (he : DE X TG W e dv) (hl : X.fn x = true ∨ X.env.scope.names.lookup x = some .local) : DS X TG W (.AugAssign (.Name x px) .Mult e pos) (sAug false i gMul dv) := ds_aug hN hi hx he iop_mul oi_mul hl
end

/-! ### x.index(e), by values -/
def idxOf (d : PyData) : List PyData → Nat → Option Nat
  | [], _ => none
  | z :: ds, j => if PyData.eqv z d then some j else idxOf d ds (j + 1)
def fIndex : PyData → List PyData → Option PyData
  | .list ds, [d] => if SeqAt.shaped (.list ds) && SeqAt.shaped d then (idxOf d ds 0).map fun j => .int (j : Nat) else none
  | _, _ => none
theorem idxOf_is {d : PyData} : ∀ {ds : List PyData} {k j : Nat}, idxOf d ds k = some j → k ≤ j ∧ ∃ z, ds[j - k]? = some z ∧ PyData.eqv z d = true ∧ ∀ (m : Nat) (z' : PyData), m < j - k → ds[m]? = some z' → PyData.eqv z' d = false
  | [], k, j, h => by cases h
  | z :: ds, k, j, h => by
    unfold idxOf at h
    by_cases e : PyData.eqv z d = true
    · rw [if_pos e] at h
      cases h
      exact ⟨Nat.le_refl _, z, by simp, e, fun m z' hm => by omega⟩
    · rw [if_neg e] at h
      obtain ⟨h1, z2, h2, h3, h4⟩ := idxOf_is h
      refine ⟨by omega, z2, ?_, h3, fun m z' hm hz => ?_⟩
      · rw [show j - k = (j - (k + 1)) + 1 by omega]
        simpa using h2
      · cases m with
        | zero => simp at hz; subst hz; simpa using e
        | succ m => exact h4 m z' (by omega) (by simpa using hz)
/-- a method of a value, by values -/
def mVal (f : PyData → List PyData → Option PyData) (o : M Arg) (ra : M (List Arg)) : M PyData := o.bind fun x => ra.bind fun as r => match reso r x, resA r as with
  | some d, some ds => (M.opt (f d ds) : M PyData) r
  | _, _ => .st
section
variable {X : Cx} {TG : TGx} {W : WX} {o e : Expr} {es : List Expr} {ra : M (List Arg)} {pos apos px : Pos} {x : Str} {i : Nat} {dob : M Arg}
def ValR (X : Cx) (hs : NestedKey → Int) (T : String) (m : V → List V → Hp → VK → Prop) (f : PyData → List PyData → Option PyData) : Prop :=
  ∀ (d : PyData) (es : List PyData) (z : PyData) (x : V) (ys : List V) (G H : Hp) (Q : VK), Same G H → f d es = some z → Ro X.K hs G H d x → RoA X.K hs G H es ys → (∀ G' H' v, Grow G H G' H' → Rv X.K G' z v → Q v H') → m x ys H Q
/-- a value's type -/
def tyD : PyData → String
  | .str _ => "str"
  | .list _ => "list"
  | .int _ => "int"
  | _ => ""
def mValT (T : String) (f : PyData → List PyData → Option PyData) (o : M Arg) (ra : M (List Arg)) : M PyData := o.bind fun x r0 => match reso r0 x with
  | some d0 => if tyD d0 = T then (ra.bind fun as r => match reso r x, resA r as with
    | some d, some ds => (M.opt (f d ds) : M PyData) r
    | _, _ => .st) r0 else .st
  | none => .st
theorem ty_of {K : PySem.W.Frag} {hs : NestedKey → Int} {G H : Hp} {d : PyData} {x : V} {T : String} (h : Ro K hs G H d x) (e : tyD d = T) (n : T ≠ "") : tyV K T x H := by
  subst e
  cases d with
  | str z => cases h; rfl
  | int z => cases h; rfl
  | list ds => obtain ⟨a, xs, rfl, h1, h2⟩ := h; exact .inl ⟨rfl, xs, .inl (.inl h1)⟩
  | none => exact absurd rfl n
  | bool _ => exact absurd rfl n
  | tuple _ => exact absurd rfl n
  | dict _ => exact absurd rfl n
theorem rd_val {T : String} {m : V → List V → Hp → VK → Prop} {f : PyData → List PyData → Option PyData} (hT : T ≠ "") (hf : ValR X TG.hs T m f) {s : L2.St} {H : Hp} {Q : VK} (h : rd X.K TG W (RE X.K) (mValT T f dob ra) s H Q) :
    tBM X.K T m (fun s H Q => rd X.K TG W (RO X.K s) dob s H Q) (fun s H Q => rd X.K TG W (RArg X.K s) ra s H Q) s H Q := by
  obtain ⟨B, F, G0, G, r0, i0, p0⟩ := rd_bind (R1 := RO X.K s) h
  refine ⟨B, F, G0, G, r0, i0, post_imp (fun x H1 q => ?_) _ p0⟩
  obtain ⟨B, F, G0, G1, r1, a, i1, v1, p1⟩ := q
  cases hd : reso r1 a with
  | none => simp only [hd] at p1; exact p1.elim
  | some d0 =>
    simp only [hd] at p1
    split at p1
    · rename_i hty
      refine ⟨ty_of (ro_of i1 v1 hd) hty hT, B, F, G0, G1, r1, i1, post_imp (fun ys H2 q => ?_) _ (post_bind (R1 := RArg X.K s) _ p1)⟩
      obtain ⟨G2, r2, as, e2, i2, v2, p2⟩ := q
      cases hd2 : reso r2 a with
      | none => simp only [hd2] at p2; exact p2.elim
      | some d =>
        cases ha2 : resA r2 as with
        | none => simp only [hd2, ha2] at p2; exact p2.elim
        | some ds =>
          simp only [hd2, ha2] at p2
          cases hz : f d ds with
          | none => simp only [hz] at p2; exact p2.elim
          | some z =>
            simp only [hz] at p2
            exact hf d ds z x ys G2 H2 Q i2.gh hz (ro_of i2 (v1.mono e2) hd2) (roA_of i2 v2 ha2) fun G' H' v g rv => p2 G' H' v g.g (i2.grow g) rv
    · exact p1.elim
theorem vr_index {hs : NestedKey → Int} : ValR X hs "list" (rIndexD X.K) fIndex := by
  intro d es z x ys G H Q gh hf hx hy q
  unfold fIndex at hf
  split at hf
  · split at hf
    · rename_i ds e hs
      rw [Bool.and_eq_true] at hs
      cases hj : idxOf e ds 0 with
      | none => rw [hj] at hf; cases hf
      | some j =>
        rw [hj] at hf
        cases hf
        obtain ⟨y, rfl, hy1⟩ := hy.one
        obtain ⟨_, w, k2, k3, k4⟩ := idxOf_is hj
        have hdp := Ro.dp gh hs.1 hx
        obtain ⟨a, xs, rfl, h1, h2⟩ := hx
        exact ⟨a, y, e, ds, j, w, rfl, rfl, hdp, Ro.dp gh hs.2 hy1, hs.1, hs.2, by simpa using k2, k3, fun m z' hm => k4 m z' (by omega), q G H _ (.refl gh) rfl⟩
    · cases hf
  · cases hf
theorem de_index (hu : X.A.units + 65 < cLine) (ho : DO X TG W o dob) (ha : DA X TG W (e :: es) ra) (hbase : attributeBase o "index" X.env (eval o X.env) = eval o X.env := by rfl)
    (hfew : ((backTo pos (starEach (e :: es) X.env)).all (fun x => !x.1) && (backToKw pos (keywordEach [] X.env)).all (fun x => x.1.isSome)
      && decide ((e :: es).length + ([] : List Keyword).length + (if ([] : List Keyword).isEmpty then 0 else 1) < 30)) = true := by rfl)
    (hline : (apos.endLine == pos.line) = true := by rfl) (hs : starEach (e :: es) X.env = (false, eval e X.env) :: starEach es X.env := by rfl) (hplain : (backTo pos (starEach es X.env)).any (·.1) = false := by rfl) :
    DE X TG W (.Call (.Attribute o "index" apos) (e :: es) [] pos) (mValT "list" fIndex dob ra) := PE_imp (pe_bm F.plainAttrs_list F.slot_list_index F.type_list_index (mt_indexD hu) ho ha hbase hfew hline hs hplain) fun s H Q q => rd_val (by decide) vr_index q
end
end TW

end
section
namespace TW
open PySem PySem.Spec PyProof.Rows L2

/-! ### isinstance -/
def tyN : PyData → String
  | .none => "NoneType"
  | .bool _ => "bool"
  | .int _ => "int"
  | .str _ => "str"
  | .list _ => "list"
  | .tuple _ => "tuple"
  | .dict [(.none, _)] => "list"
  | .dict _ => "dict"
def isB (T : String) (d : PyData) : Bool := tyN d == T || (T == "int" && tyN d == "bool")
theorem tyN_scr {kvs : List (PyData × PyData)} {ns : List Int} (h : PyData.dict kvs = scr ns) : tyN (.dict kvs) = "list" := by rw [h]; rfl
theorem tyN_dict {K : PySem.W.Frag} {G : Hp} {kvs : List (PyData × PyData)} {ks : List (Key × V)} (h : RvD K G kvs ks) : tyN (.dict kvs) = "dict" := by
  match kvs, h with
  | [], _ => rfl
  | [(.none, _)], ⟨x, r, _, h2, _⟩ => cases h2.1
  | [(.bool _, _)], _ => rfl
  | [(.int _, _)], _ => rfl
  | [(.str _, _)], _ => rfl
  | [(.list _, _)], _ => rfl
  | [(.tuple _, _)], _ => rfl
  | [(.dict _, _)], _ => rfl
  | (.none, _) :: _ :: _, ⟨x, r, _, h2, _⟩ => cases h2.1
  | (.bool _, _) :: _ :: _, _ => rfl
  | (.int _, _) :: _ :: _, _ => rfl
  | (.str _, _) :: _ :: _, _ => rfl
  | (.list _, _) :: _ :: _, _ => rfl
  | (.tuple _, _) :: _ :: _, _ => rfl
  | (.dict _, _) :: _ :: _, _ => rfl
/-- isinstance can be asked of it -/
def isiOk : PyData → Bool
  | .dict [(.none, .list _)] => true
  | .dict kvs => flatK kvs
  | _ => true
theorem tyx_of {K : PySem.W.Frag} {hs : NestedKey → Int} {G H : Hp} {d : PyData} {x : V} (e : Same G H) (ok : isiOk d = true) (h : Ro K hs G H d x) : TyX K H x (.type (tyN d)) := by
  cases d with
  | none => cases h; exact .base .non
  | bool b => cases h; exact .base (.bl b)
  | int b => cases h; exact .base (.int b)
  | str b => cases h; exact .base (.str b)
  | list ds => obtain ⟨a, xs, rfl, h1, h2⟩ := h; exact .base (.lst h1)
  | tuple ds =>
    obtain ⟨a, xs, rfl, h1, h2⟩ := (show Rv K G (.tuple ds) x from h)
    rcases same_t e h1 with (h | ⟨o, h⟩) | ⟨o, its, n, h, hc, _⟩
    · exact .base (.tup h)
    · exact .fTuple h
    · exact .kTuple h hc
  | dict kvs =>
    unfold isiOk at ok
    split at ok
    · rename_i ds hq
      injection hq with hq
      subst hq
      obtain ⟨a, ns, h1, rfl, h2⟩ := ro_scr h
      have e0 : tyN (.dict [(.none, .list ds)]) = "list" := rfl
      rw [e0]
      rcases e.seq h2 with (h | ⟨o, h⟩) | ⟨o, its, n, h, hc, _⟩
      · exact .base (.lst h)
      · exact .base (.frz h)
      · exact .kList h hc
    · rename_i kvs' _ hq
      injection hq with hq
      subst hq
      have noN : ∀ {xs : List (NestedKey × Addr × Value)}, xs ≠ [] → ¬ RvN K G kvs xs := fun h0 r => by
        have := RvN.flat ok r
        subst this
        cases r
        exact h0 rfl
      rcases h with (⟨a, ns, h1, rfl, h2⟩ | ⟨a, ks, rfl, h1, h2⟩ | ⟨a, xs, rfl, h1, h0, _, h2⟩ | ⟨a, dx, c, vs, rfl, h1, _, h2⟩) | ⟨a, o, rfl, h1, ⟨ks, rfl, h2⟩ | ⟨xs, rfl, h0, h2⟩⟩
      · unfold scr at h1
        injection h1 with h1
        subst h1
        cases ok
      · rw [tyN_dict h2]
        exact .base (.dK (e _ _ h1))
      · exact absurd h2 (noN h0)
      · cases kvs with
        | nil => cases h2
        | cons p r =>
          obtain ⟨k, d⟩ := p
          obtain ⟨x, r', e, ⟨e2, _⟩, _⟩ := h2
          cases e
          subst e2
          cases ok
      · rw [tyN_dict h2]
        exact .base (.dK h1)
      · exact absurd h2 (noN h0)
    · rename_i h1 h2
      exact absurd rfl (h2 kvs)
/-- the six types -/
structure IsT (T : String) : Prop where
  kit : ∀ (K : PySem.W.Frag) (d : PyData), PySem.W.kitOne K (.type (tyN d)) (.type T) = some (isB T d)
theorem tyN_in (d : PyData) : tyN d = "NoneType" ∨ tyN d = "bool" ∨ tyN d = "int" ∨ tyN d = "str" ∨ tyN d = "list" ∨ tyN d = "tuple" ∨ tyN d = "dict" := by
  unfold tyN
  split <;> simp
theorem isT_int : IsT "int" := ⟨fun K d => by unfold isB; rcases tyN_in d with h | h | h | h | h | h | h <;> rw [h] <;> rfl⟩
theorem isT_bool : IsT "bool" := ⟨fun K d => by unfold isB; rcases tyN_in d with h | h | h | h | h | h | h <;> rw [h] <;> rfl⟩
theorem isT_str : IsT "str" := ⟨fun K d => by unfold isB; rcases tyN_in d with h | h | h | h | h | h | h <;> rw [h] <;> rfl⟩
theorem isT_list : IsT "list" := ⟨fun K d => by unfold isB; rcases tyN_in d with h | h | h | h | h | h | h <;> rw [h] <;> rfl⟩
theorem isT_tuple : IsT "tuple" := ⟨fun K d => by unfold isB; rcases tyN_in d with h | h | h | h | h | h | h <;> rw [h] <;> rfl⟩
theorem isT_dict : IsT "dict" := ⟨fun K d => by unfold isB; rcases tyN_in d with h | h | h | h | h | h | h <;> rw [h] <;> rfl⟩
def dIsi (T : String) (o : M Arg) : M PyData := o.bind fun x r => match reso r x with
  | some d => if isiOk d then .ok (.bool (isB T d)) r else .st
  | none => .st
def dIsi2 (T U : String) (o : M Arg) : M PyData := o.bind fun x r => match reso r x with
  | some d => if isiOk d then .ok (.bool (isB T d || isB U d)) r else .st
  | none => .st
section
variable {X : Cx} {TG : TGx} {W : WX} {e : Expr} {dob : M Arg} {pos p2 p3 p4 p5 : Pos} {T U : String} {x y : Str} {k : Nat}
theorem bl_isinstance : bootBuiltins "isinstance" = some (.builtin "isinstance") := by rfl
theorem de_isi (t : IsT T) (hg : Gl X "isinstance") (hm : X.mg "isinstance" = none) (hg2 : Gl X x) (hm2 : X.mg x = none) (hv : bootBuiltins x = some (.type T)) (ho : DO X TG W e dob) (hn : x ≠ "__name__" := by decide) (hdb : (x == ("__debug__" : Str)) = false := by decide)
    (he : starEach [e, .Name x p3] X.env = (false, eval e X.env) :: starEach [.Name x p3] X.env := by rfl) (he2 : starEach [.Name x p3] X.env = (false, eval (.Name x p3) X.env) :: starEach [] X.env := by rfl) (hpl : (backTo pos (starEach [.Name x p3] X.env)).any (·.1) = false := by rfl) :
    DE X TG W (.Call (.Name "isinstance" p2) [e, .Name x p3] [] pos) (dIsi T dob) :=
  PE_imp (pe_callB call_isi hg hm bl_isinstance (pa_cons ho (pa_cons (pe_bltn (v := .ty T) hg2 hm2 hv rfl hn hdb) pa_nil he2) he) (by decide) (by decide) he hpl) fun s H Q h => by
  obtain ⟨B, F, G0, G, r0, i0, p0⟩ := rd_bind (R1 := RO X.K s) h
  refine ⟨B, F, G0, G, r0, i0, post_imp (fun x H1 q => ?_) _ p0⟩
  obtain ⟨B, F, G0, G1, r1, a, i1, v1, p1⟩ := q
  cases hd : reso r1 a with
  | none => simp only [hd] at p1; exact p1.elim
  | some d =>
    simp only [hd] at p1
    split at p1
    · rename_i ok
      exact ⟨x, .ty T, _, _, _, rfl, .ty T, tyx_of i1.gh ok (ro_of i1 v1 hd), t.kit X.K d, p1 G1 H1 _ (.refl _) i1 rfl⟩
    · exact p1.elim
theorem de_isi2 (t : IsT T) (u : IsT U) (hg : Gl X "isinstance") (hm : X.mg "isinstance" = none) (hg2 : Gl X x) (hm2 : X.mg x = none) (hv : bootBuiltins x = some (.type T)) (hg3 : Gl X y) (hm3 : X.mg y = none) (hv3 : bootBuiltins y = some (.type U)) (ho : DO X TG W e dob)
    (hn : x ≠ "__name__" := by decide) (hdb : (x == ("__debug__" : Str)) = false := by decide) (hn3 : y ≠ "__name__" := by decide) (hdb3 : (y == ("__debug__" : Str)) = false := by decide)
    (he : starEach [e, .Tuple [.Name x p3, .Name y p4] k p5] X.env = (false, eval e X.env) :: starEach [.Tuple [.Name x p3, .Name y p4] k p5] X.env := by rfl) (he2 : starEach [.Tuple [.Name x p3, .Name y p4] k p5] X.env = (false, eval (.Tuple [.Name x p3, .Name y p4] k p5) X.env) :: starEach [] X.env := by rfl)
    (he3 : starEach [.Name x p3, .Name y p4] X.env = (false, eval (.Name x p3) X.env) :: starEach [.Name y p4] X.env := by rfl) (he4 : starEach [.Name y p4] X.env = (false, eval (.Name y p4) X.env) :: starEach [] X.env := by rfl)
    (hpl : (backTo pos (starEach [.Tuple [.Name x p3, .Name y p4] k p5] X.env)).any (·.1) = false := by rfl) :
    DE X TG W (.Call (.Name "isinstance" p2) [e, .Tuple [.Name x p3, .Name y p4] k p5] [] pos) (dIsi2 T U dob) :=
  PE_imp (pe_callB call_isiT hg hm bl_isinstance (pa_cons ho (pa_cons (pe_tup (pa_cons (pe_bltn (v := .ty T) hg2 hm2 hv rfl hn hdb) (pa_cons (pe_bltn (v := .ty U) hg3 hm3 hv3 rfl hn3 hdb3) pa_nil he4) he3)) pa_nil he2) he) (by decide) (by decide) he hpl) fun s H Q h => by
  obtain ⟨B, F, G0, G, r0, i0, p0⟩ := rd_bind (R1 := RO X.K s) h
  refine ⟨B, F, G0, G, r0, i0, post_imp (fun x H1 q => ?_) _ p0⟩
  obtain ⟨B, F, G0, G1, r1, a, i1, v1, p1⟩ := q
  cases hd : reso r1 a with
  | none => simp only [hd] at p1; exact p1.elim
  | some d =>
    simp only [hd] at p1
    split at p1
    case isFalse => exact p1.elim
    rename_i ok
    refine ⟨by rw [sizeLine_eq]; show 2 ≤ 16777216; decide, fun p hp => ?_⟩
    have g := Grow.new i1.gh hp (.tup [.ty T, .ty U]) (fun _ z => by cases z)
    have i2 := i1.grow (grow_out i1.gh hp (o := .tup [.ty T, .ty U]))
    refine ⟨x, p, [.ty T, .ty U], _, _, _, rfl, upd_same, .cons (.ty T) (.cons (.ty U) .nil), tyx_of i2.gh ok (ro_of i2 v1 hd), ?_, p1 G1 _ _ (.refl _) i2 rfl⟩
    have e1 := t.kit X.K d
    have e2 := u.kit X.K d
    show (match PySem.W.kitOne X.K (.type (tyN d)) (.type T) with
      | some true => some true
      | some false => (match PySem.W.kitOne X.K (.type (tyN d)) (.type U) with
        | some true => some true
        | some false => some false
        | none => none)
      | none => none) = _
    rw [e1, e2]
    cases isB T d <;> cases isB U d <;> rfl
end
end TW

end
section
namespace TW
open PySem PySem.Spec PyProof.Rows L2 GenW

/-! ### generator expressions that all or any takes -/
/-- the context of a generator expression's body -/
abbrev gcx (X : Cx) (A : Around) (s : Shared) (H : Hp) (env : Env) (fp : List Addr) (pn : List (Addr × Obj)) : Cx := { X with A := A.deeper env, s_0 := s, H_0 := H, env := env, outer := X.stack, stack := env :: X.stack, ex := fp, fn := fun _ => false, pn := pn, xe := fun _ _ => False }
/-- its names: its own ones with their places in N, captured ones -/
structure GnS (N : List Str) (sc scope : Scope) (own : List (Str × Nat)) : Prop where
  kind : scope.kind = .function
  co : scope.isCoroutine = false
  cell : ∀ y ∈ scope.names, y.2 ≠ .cell
  dot : scope.names.lookup (".0" : Str) = some NameKind.local
  free : ∀ y ∈ scope.names, y.2 = .free → sc.names.lookup y.1 = some .cell ∨ sc.names.lookup y.1 = some .free
  ix : ∀ p ∈ own, N[p.2]? = some p.1
  own : ∀ y ∈ scope.names, y.2 = .local → y.1 ∈ own.map (·.1) ∨ y.1 ∉ N
def gnB (N : List Str) (sc scope : Scope) (own : List (Str × Nat)) : Bool :=
  decide (scope.kind = .function) && !scope.isCoroutine && (scope.names.all fun y => !decide (y.2 = .cell)) && decide (scope.names.lookup (".0" : Str) = some NameKind.local) &&
    (scope.names.all fun y => !decide (y.2 = .free) || decide (sc.names.lookup y.1 = some .cell) || decide (sc.names.lookup y.1 = some .free)) && (own.all fun p => decide (N[p.2]? = some p.1)) &&
    (scope.names.all fun y => !decide (y.2 = .local) || decide (y.1 ∈ own.map (·.1)) || decide (y.1 ∉ N))
theorem gnS_by {N : List Str} {sc scope : Scope} {own : List (Str × Nat)} (h : gnB N sc scope own = true) : GnS N sc scope own := by
  unfold gnB at h
  simp only [Bool.and_eq_true, Bool.or_eq_true, Bool.not_eq_true', decide_eq_true_eq, decide_eq_false_iff_not, List.all_eq_true] at h
  obtain ⟨⟨⟨⟨⟨⟨h1, h2⟩, h3⟩, h4⟩, h5⟩, h6⟩, h7⟩ := h
  refine ⟨h1, h2, h3, h4, fun y hy e => ?_, h6, fun y hy e => ?_⟩
  · rcases h5 y hy with (z | z) | z
    · exact absurd e z
    · exact .inl z
    · exact .inr z
  · rcases h7 y hy with (z | z) | z
    · exact absurd e z
    · exact .inl z
    · exact .inr z
abbrev gnEnv (X : Cx) (scope : Scope) (C : Addr) (code : Value) : Env := genEnv scope (cloFrom X.env.cells scope.names []) C code builtinsNs X.env
section
variable {X : Cx} {pins : List (Addr × Obj)} {σ : L2.St} {H : Hp} {s : Shared}
theorem gen_start {A : Around} {scope : Scope} {own : List (Str × Nat)} {fp : List Addr} {code it : Value} {h' : Heap} {tk : Nat} {gens' : Array GenState} {go : Obj} (I : Inv X pins σ H s) (ok : GnS X.N X.env.scope scope own) (hN : X.N.Nodup)
    (hfp : ∀ b ∈ fp, FpOk X pins H b ∧ b < s.heap.objs.size) (hA : A.handled = none) (hfr : A.frames = some X.stack) (hn : h'.Ns s.heap.objs.size (fun y => if y = ".0" then some it else none)) (kp : ∀ b o, s.heap.get? b = some o → h'.get? b = some o)
    (hsz : h'.objs.size = s.heap.objs.size + 1) (hb : AllBare gens') (hgo : ∀ v, go.data ≠ .cell v) (hpush : (h'.push go).get? h'.objs.size = some go) :
    Inv (gcx X A s H (gnEnv X scope s.heap.objs.size code) fp [(h'.objs.size, go)]) [] (L2.wipe σ (own.map (·.2))) H { s with gens := gens', toks := tk, heap := h'.push go } := by
  have hfree : ∀ y ∈ scope.names, y.2 = .free → ∃ c, X.env.cells.lookup y.1 = some c := fun y hy e => by
    rcases ok.free y hy e with k | k
    · exact I.ok.has _ (.inl k)
    · exact I.ok.has _ (.inr k)
  have cm : ∀ {y c}, (cloFrom X.env.cells scope.names []).lookup y = some c → X.env.cells.lookup y = some c := fun {y c} e => by
    rcases cloFrom_mem (PySem.mem_of_lookup e) with hm | ⟨h1, h2⟩
    · cases hm
    · obtain ⟨c1, hc⟩ := hfree _ h1 rfl
      have hc : X.env.cells.lookup y = some c1 := hc
      have e2 : c = c1 := by
        rw [h2, hc] <;> rfl
      rw [e2]
      exact hc
  have look : ∀ {y}, scope.names.lookup y = some .free → ∃ c, (cloFrom X.env.cells scope.names []).lookup y = some c := fun {y} hl => by
    have hy : (y, NameKind.free) ∈ scope.names := PySem.mem_of_lookup hl
    exact mem_lookup (cloFrom_has (cells := X.env.cells) (acc := []) hy)
  have kp2 : ∀ b o, s.heap.get? b = some o → (h'.push go).get? b = some o := fun b o e => Heap.get?_push_of_some _ (kp b o e)
  have lt : ∀ b ∈ fp, b < s.heap.objs.size := fun b hb => (hfp b hb).2
  have okB : (gcx X A s H (gnEnv X scope s.heap.objs.size code) fp [(h'.objs.size, go)]).Ok := by
    refine ⟨I.ok.mod, ok.kind, I.ok.glob, rfl, Nat.le_refl _, fun y z c e1 e2 => I.ok.inj y z c (cm e1) (cm e2), fun y hy => ?_, fun y c z _ => ?_, fun _ => hA, Around.frames_deeper hfr, .inr ⟨rfl, rfl⟩, fun b hb => ⟨Nat.ne_of_lt (lt b hb), fun y c e z => (hfp b hb).1.2.2.2.2.1 y c (cm e) z⟩,
      I.bs, Nat.le_trans I.ok.bsz I.sz, fun b o e hb => ?_, fun b hb z => ?_, I.stack, I.stkFree⟩
    · have hy : scope.names.lookup y = some .cell ∨ scope.names.lookup y = some .free := hy
      rcases hy with hy | hy
      · exact absurd rfl (ok.cell _ (PySem.mem_of_lookup hy))
      · exact look hy
    · have z : false = true := z
      cases z
    · rcases (hfp b hb).1.2.2.2.1 with z | z
      · exact I.ok.noex b o e z
      · exact absurd (Nat.lt_of_lt_of_le (Heap.lt_size e) (Nat.le_trans I.ok.bsz z)) (Nat.lt_irrefl _)
    · rcases List.mem_cons.mp (I.stkSub b z) with z | z
      · exact (hfp b hb).1.2.1 z
      · exact (hfp b hb).1.2.2.1 z
  have young : ∀ b, s.heap.objs.size ≤ b → b ∉ frs X.stack := fun b hb z => by
    rcases List.mem_cons.mp (I.stkSub b z) with z | z
    · have := I.lt
      rw [← z] at this
      exact absurd (Nat.lt_of_lt_of_le this hb) (Nat.lt_irrefl _)
    · exact I.nofs hb z
  refine ⟨okB, rfl, hb, Un.kept kp2, ⟨_, hn.push _, fun i y av e1 e2 e3 => ?_⟩, fun y c e => ?_, I.hok.fresh (Nat.le_refl _), fun y c e => I.freeC y c (cm e), fun p hp => ?_, I.hok.kept kp2, by rw [L2.wipe_length]; exact I.len⟩
  · obtain ⟨e2, hne⟩ := L2.wipe_some e2
    have e3 : Vis scope y := e3
    rcases e3 with k | k | k
    · exfalso
      rcases ok.own _ (PySem.mem_of_lookup k) rfl with e' | e'
      · obtain ⟨p, hp, hpy⟩ := List.mem_map.mp e'
        have e3 := ok.ix p hp
        have : p.1 = y := hpy
        rw [this] at e3
        exact hne (List.mem_map.mpr ⟨p, hp, nodup_ix hN e3 e1⟩)
      · exact e' (List.mem_of_getElem? e1)
    · exact absurd rfl (ok.cell _ (PySem.mem_of_lookup k))
    · obtain ⟨m, hn, hl⟩ := I.loc
      have hvis : Vis X.env.scope y := (ok.free _ (PySem.mem_of_lookup k) rfl).elim (fun k => .inr (.inl k)) (fun k => .inr (.inr k))
      obtain ⟨w', r, q⟩ := hl i y av e1 e2 hvis
      obtain ⟨c2, h2⟩ := look k
      refine ⟨w', r, .inr ⟨.inr k, c2, h2, ?_⟩⟩
      have c1 := cm h2
      rcases q with ⟨k', _⟩ | ⟨_, c3, e', z⟩
      · have k' : X.env.scope.names.lookup y = some .local := k'
        rcases ok.free _ (PySem.mem_of_lookup k) rfl with k2 | k2 <;> rw [show X.env.scope.names.lookup y = _ from k2] at k' <;> cases k'
      · rw [c1] at e'
        cases e'
        exact z.keeps kp2
  · obtain ⟨w', z⟩ := I.cell y c (cm e)
    exact ⟨w', z.keeps kp2⟩
  · have hp : p ∈ [(h'.objs.size, go)] ++ ([] : List (Addr × Obj)) := hp
    rw [List.append_nil] at hp
    rw [List.mem_singleton.mp hp]
    have hz : s.heap.objs.size < h'.objs.size := by omega
    exact ⟨hpush, I.hok.fresh (Nat.le_of_lt hz), Nat.ne_of_gt hz, young _ (Nat.le_of_lt hz), hgo⟩
/-- what is asked of its turns -/
def Turns (stop : Bool) (J : It) (g : L2.TG) (tt : TT) (te : TE) (vs : List Nat) (σ : L2.St) (Q : VK) (W : Nat → Nat → Hp → Prop) : Prop := ∀ i m H, W i m H →
  (J.stop i H ∧ Q (.bl (!stop)) H) ∨ (J.go i H ∧ ∃ Nx : Hp → Prop, (∀ H', Nx H' → ∃ m', m' < m ∧ W (i + 1) m' H') ∧ ∀ x H', J.yld i H x H' → g x (L2.wipe σ vs) H' fun σ2 H2 => L2.wipe σ2 vs = L2.wipe σ vs ∧ tt σ2 H2 fun b H3 =>
    if b = true then te σ2 H3 fun y H4 => ∃ k, y = .bl k ∧ (if k = stop then Q (.bl stop) H4 else Nx H4) else Nx H3)
def tGen (stop : Bool) (P : Addr) (wi : TI) (g : L2.TG) (tt : TT) (te : TE) (vs : List Nat) : TE := fun σ H Q => wi σ H fun J H1 => GxR.TabG H1 P ∧ ∀ H2, GxR.Tabbed P H1 H2 → ∃ W : Nat → Nat → Hp → Prop, (∃ m, W 0 m H2) ∧ Turns stop J g tt te vs σ Q W
/-- back in the def -/
def Home (X : Cx) (pins : List (Addr × Obj)) (σ : L2.St) (Q : VK) (k : Bool) (s : Shared) : Prop := ∃ H, Inv X pins σ H s ∧ Q (.bl k) H
theorem Inv.alike {s' : Shared} (I : Inv X pins σ H s) (h : s'.heap = s.heap) (o : s'.os = s.os) (b : AllBare s'.gens) : Inv X pins σ H s' := by
  have e : ∀ b u, s.heap.get? b = some u → s'.heap.get? b = some u := fun b u z => by rw [h]; exact z
  exact I.call' (ch := []) o (Un.kept e) (I.hok.kept e) b fun b z => absurd z (by simp)
theorem Home.alike {Q : VK} {k : Bool} {s' : Shared} (h : Home X pins σ Q k s) (e : s'.heap = s.heap) (o : s'.os = s.os) (b : AllBare s'.gens) : Home X pins σ Q k s' := let ⟨H, I, q⟩ := h; ⟨H, Inv.alike I e o b, q⟩
def GEnd (X : Cx) (pins : List (Addr × Obj)) (σ : L2.St) (Q : VK) (stop : Bool) : Nat → Shared → Shared → Prop := fun _ _ s1 => Home X pins σ Q (!stop) s1
def GItem (X : Cx) (pins : List (Addr × Obj)) (σ : L2.St) (Q : VK) (stop : Bool) (a : Addr) (g : Nat) : Protocol := fun n s₀ v s1 kap => ∃ k, v = .bool k ∧ AllBare s1.gens ∧ (k = stop → Home X pins σ Q stop s1) ∧
  (k ≠ stop → s1.heap.IsGen a g ∧ s1.heap.NoLimit ∧ ∀ s'', s''.heap = s1.heap → s''.os = s1.os → AllBare s''.gens → kap (.send .none) s'')
theorem gen_loop {A : Around} {s3 : Shared} {H3 : Hp} {scope : Scope} {code : Value} {fp : List Addr} {C a it : Addr} {go : Obj} {gn : Nat} {stop : Bool} {J : It} {g : L2.TG} {tt : TT} {te : TE} {vs : List Nat} {Q : VK} {W : Nat → Nat → Hp → Prop} {tn : Nat → Heap → Prop} {elt tg iter : Expr} {ifs : List Expr} {pos : Pos}
    (hc : X.calm = true) (hco : scope.isCoroutine = false) (I3 : Inv X pins σ H3 s3) (f3 : ∀ b ∈ fp, FpOk X pins H3 b) (hgen : ∀ h : Heap, h.get? a = some go → h.IsGen a gn) (T : Turn X.prog X.w X.K tg J fp it tn)
    (pg : PG (gcx X A s3 H3 (gnEnv X scope C code) fp [(a, go)]) tg g) (pt : PTs (gcx X A s3 H3 (gnEnv X scope C code) fp [(a, go)]) ifs tt) (pe : PE (gcx X A s3 H3 (gnEnv X scope C code) fp [(a, go)]) elt te) (turn : Turns stop J g tt te vs σ Q W) (ha : a ∉ fp) :
    ∀ (m : Nat) (n i : Nat) (s₀ s : Shared) (H' : Hp), m < n → W i m H' → Inv (gcx X A s3 H3 (gnEnv X scope C code) fp [(a, go)]) [] (L2.wipe σ vs) H' s → tn i s.heap → (∀ b ∈ fp, H' b = none) →
      Seg (model X.prog X.w) A (fun n s₀ r s₁ => r = .ok .next ∧ GEnd X pins σ Q stop n s₀ s₁) (GItem X pins σ Q stop a gn) n s₀
        (.compLoop (.GeneratorExp elt [⟨tg, iter, ifs, 0⟩] scope pos) 0 (.ref it) .none (gnEnv X scope C code))
        ((model X.prog X.w).den (.compLoop (.GeneratorExp elt [⟨tg, iter, ifs, 0⟩] scope pos) 0 (.ref it) .none (gnEnv X scope C code))) [] s := by
  have stat : ∀ {σ' : L2.St} {H' : Hp} {s' : Shared}, Inv (gcx X A s3 H3 (gnEnv X scope C code) fp [(a, go)]) [] σ' H' s' → (∀ b ∈ fp, H' b = none) → ∀ b ∈ fp, FpOk (gcx X A s3 H3 (gnEnv X scope C code) fp [(a, go)]) [] H' b := fun {σ' H' s'} I' hn b hb =>
    ⟨hn b hb, (I'.ok.exf b hb).1, I'.ok.exfs b hb, .inl hb, fun x c e => (I'.ok.exf b hb).2 x c e, fun p hp z => by
      have hp : p ∈ [(a, go)] ++ ([] : List (Addr × Obj)) := hp
      rw [List.append_nil] at hp
      rw [List.mem_singleton.mp hp] at z
      have z : a = b := z
      exact ha (by rw [z]; exact hb)⟩
  have back : ∀ {σ' : L2.St} {H' : Hp} {s' : Shared}, Inv (gcx X A s3 H3 (gnEnv X scope C code) fp [(a, go)]) [] σ' H' s' → Inv X pins σ H' s' := fun {σ' H' s'} I' =>
    I3.call' (ch := fp) I'.os I'.base I'.hok I'.bare fun b hb => ⟨(f3 b hb).2.2.2.1, (f3 b hb).2.1, (f3 b hb).2.2.2.2.1, (f3 b hb).2.2.2.2.2⟩
  intro m
  induction m using Nat.strongRecOn with
  | _ m ih =>
    intro n i s₀ s H' hmn w I st nf
    obtain ⟨n, rfl⟩ : ∃ k, n = k + 1 := ⟨n - 1, by omega⟩
    show Seg _ A _ _ _ s₀ _ ((compTurn (.GeneratorExp elt [⟨tg, iter, ifs, 0⟩] scope pos) 0 (.ref it) .none (gnEnv X scope C code)).onRaise (leaving (gnEnv X scope C code))) [] s
    rw [compTurn_gen, Sem.onRaise_eq_wrap]
    refine seg_bind_wrap (wpAny_standAt ?_)
    rcases turn i m H' w with ⟨hstop, qq⟩ | ⟨hgo, Nx, hNx, step⟩
    · refine seg_bind_wrap (thnF (T.done (gcx X A s3 H3 (gnEnv X scope C code) fp [(a, go)]) rfl rfl rfl hc i [] s _ H' (fun _ _ => False) I (stat I nf) st hstop) fun r s6 ⟨hr, I6⟩ => ?_)
      subst hr
      exact seg_end (.ok .next) ⟨rfl, H', back I6, qq⟩
    · refine seg_bind_wrap (thnF (T.item (gcx X A s3 H3 (gnEnv X scope C code) fp [(a, go)]) rfl rfl rfl hc i [] s _ H' (fun _ _ => False) I (stat I nf) st hgo) fun r s6 ⟨u, hr, h6⟩ => ?_)
      subst hr
      refine seg_bind_wrap (thnF h6 fun _ s7 ⟨x, H7, I7, r7, y7, st7, n7⟩ => ?_)
      have I7' := I7.pinned (stat I7 n7) (T.obj _ _ st7)
      refine seg_bind_wrap (thnF (pg.run _ s7 _ H7 x u _ I7' r7 (step x H7 y7)) fun _ s8 ⟨σ8, H8, I8, hw8, q8⟩ => ?_)
      refine seg_bind_wrap (thnF (pt.run _ s8 σ8 H8 _ I8 q8) fun b s9 ⟨H9, I9, q9⟩ => ?_)
      have fin : ∀ {s' : Shared} {H' : Hp}, Inv (gcx X A s3 H3 (gnEnv X scope C code) fp [(a, go)]) ([] ++ pinsAt fp s7.heap) σ8 H' s' → Nx H' → ∃ m', m' < m ∧ W (i + 1) m' H' ∧ Inv (gcx X A s3 H3 (gnEnv X scope C code) fp [(a, go)]) [] (L2.wipe σ vs) H' s' ∧ tn (i + 1) s'.heap ∧ (∀ b ∈ fp, H' b = none) := fun {s' H'} I' nx => by
        obtain ⟨m', hm, w'⟩ := hNx H' nx
        have pin' : ∀ b ∈ fp, ∀ o, s7.heap.get? b = some o → s'.heap.get? b = some o ∧ H' b = none := fun b hb o e =>
          let z := I'.pin (b, o) (List.mem_append_right _ (List.mem_append_right _ (mem_pinsAt hb e)))
          ⟨z.1, z.2.1⟩
        have hl : (L2.wipe σ vs).length = σ8.length := by rw [← hw8, L2.wipe_length]
        refine ⟨m', hm, w', (I'.unpinned (pins := [])).weak hl (fun j v e => ?_), T.keep _ _ _ st7 fun b hb o e => (pin' b hb o e).1, fun b hb => ?_⟩
        · rw [← hw8] at e
          exact (L2.wipe_some e).1
        · obtain ⟨o, e, _⟩ := T.obj _ _ st7 b hb
          exact (pin' b hb o e).2
      cases b with
      | false =>
        simp only [Bool.false_eq_true, if_false] at q9 ⊢
        obtain ⟨m', hm, w', J', st', nf'⟩ := fin I9 q9
        exact seg_again rfl (ih m' hm (n + 1) (i + 1) s₀ s9 H9 (by omega) w' J' st' nf')
      | true =>
        simp only [if_true] at q9 ⊢
        have hy : ∀ v, yieldOut (gnEnv X scope C code) v = yieldValue v := fun v => by
          unfold yieldOut
          rw [show (gnEnv X scope C code).scope.isCoroutine = false from hco]
          rfl
        simp only [hy]
        rw [Sem.bind_eq_wrap', Sem.bind_eq_wrap', Sem.wrap_wrap, Sem.wrap_wrap]
        refine seg_wrap (thnF (pe.run _ s9 σ8 H9 _ I9 q9) fun z s10 ⟨yv, H10, I10, r10, k, hk, q10⟩ => ?_)
        subst hk
        cases r10
        refine seg_at (seg_yield rfl rfl rfl ⟨k, rfl, I10.bare, fun e => ?_, fun e => ?_⟩)
        · rw [if_pos e] at q10
          exact ⟨H10, back (I10.unpinned (pins := [])), q10⟩
        · rw [if_neg e] at q10
          obtain ⟨m', hm, w', J', st', nf'⟩ := fin I10 q10
          refine ⟨hgen _ (J'.pin (a, go) (by simp)).1, J'.nolimit, fun s'' eh eo eb => ?_⟩
          exact seg_again rfl (ih m' hm n (i + 1) s'' s'' H10 (by omega) w' (Inv.alike J' eh eo eb) (by rw [eh]; exact st') nf')
/-- all, any walk it -/
theorem all_loop {A : Around} {Q : VK} {a : Addr} {g : Nat} {R : Result → Shared → Prop} (hh : A.handled = none) (hd : A.depth < recursionLimit)
    (hR : ∀ k s', Home X pins σ Q k s' → R (.ok (.ret (.bool k))) s') : ∀ (n : Nat) (s : Shared), s.heap.IsGen a g → s.heap.NoLimit → AllBare s.gens →
      (∃ gs, s.gens[g]? = some gs ∧ ∀ s'', s''.heap = s.heap → s''.os = s.os → AllBare s''.gens → gs.Goes (model X.prog X.w) A.in1.in1 (fun n s₀ r s₁ => r = .ok .next ∧ GEnd X pins σ Q false n s₀ s₁) (GItem X pins σ Q false a g) n (.send .none) s'') →
      codeAny (model X.prog X.w) A (.builtin "all.loop" ⟨[.ref a], []⟩) R s := by
  intro n
  induction n with
  | zero =>
    intro s hg hl hb ⟨gs, hgs, hgo⟩
    refine codeAny_builtin F.entry_all_loop ?_
    rw [Around.under_plainId F.plain_all_loop _]
    show wpAny _ A.in1 (pyNext (.ref a) >>= _) _ _ s
    refine wpAny_bind (wpAny_pyNext_genexpQ (A := A.in1) (n := 0) (P := GEnd X pins σ Q false) hh hl hd hg hgs (hgo _ rfl rfl (allBare_setGen hb rfl)) (fun v s₁ gs' hbare hv => ?_) (fun s₁ hp h' hk => ?_))
    · obtain ⟨k, rfl, hb1, h1, h2⟩ := hv
      refine wpAny_bind (wpAny_holding (wpAny_truthy_bool ?_))
      refine wpAny_bind (wpAny_letGo ?_)
      cases k with
      | true => obtain ⟨_, _, h3⟩ := h2 (by decide); exact (h3 s₁ rfl rfl hb1).elim
      | false =>
        simp only [Bool.false_eq_true, if_false]
        refine wpAny_bind (wpAny_rule (wpAny_pure ?_))
        exact hR false _ ((h1 rfl).alike rfl rfl (allBare_setGen hb1 hbare))
    · refine wpAny_bind (wpAny_rule (wpAny_pure ?_))
      obtain ⟨H', I', q'⟩ := hp
      have J := (I'.kept (h' := h') (t' := s₁.toks) hk)
      exact hR true _ ⟨H', Inv.alike J rfl rfl (allBare_setGen (s := s₁) I'.bare rfl), q'⟩
  | succ n ih =>
    intro s hg hl hb ⟨gs, hgs, hgo⟩
    have hgl : g < s.gens.size := (Array.getElem?_eq_some_iff.mp hgs).1
    refine codeAny_builtin F.entry_all_loop ?_
    rw [Around.under_plainId F.plain_all_loop _]
    show wpAny _ A.in1 (pyNext (.ref a) >>= _) _ _ s
    refine wpAny_bind (wpAny_gsz (n := g + 1) hgl (wpAny_pyNext_genexpQ (A := A.in1) (n := n + 1) (P := GEnd X pins σ Q false) hh hl hd hg hgs (hgo _ rfl rfl (allBare_setGen hb rfl)) (fun v s₁ gs' hbare hv => ?_) (fun s₁ hp h' hk => ?_)))
    · intro hsz
      have hsz1 : g < s₁.gens.size := by
        have q : (s₁.setGen g gs').gens.size = s₁.gens.size := setGen_size _ _ _
        have hsz' : g + 1 ≤ (s₁.setGen g gs').gens.size := hsz
        omega
      obtain ⟨k, rfl, hb1, h1, h2⟩ := hv
      refine wpAny_bind (wpAny_holding (wpAny_truthy_bool ?_))
      refine wpAny_bind (wpAny_letGo ?_)
      cases k with
      | true =>
        simp only [if_true]
        obtain ⟨hg1, hl1, h3⟩ := h2 (by decide)
        refine wpAny_pure ⟨plainId_quiet F.plain_all_loop _, ih (s₁.setGen g gs') hg1 hl1 (allBare_setGen hb1 hbare) ⟨gs', setGen_at hsz1, fun s'' e1 e2 e3 => h3 s'' e1 e2 e3⟩⟩
      | false =>
        simp only [Bool.false_eq_true, if_false]
        refine wpAny_bind (wpAny_rule (wpAny_pure ?_))
        exact hR false _ ((h1 rfl).alike rfl rfl (allBare_setGen hb1 hbare))
    · intro _
      refine wpAny_bind (wpAny_rule (wpAny_pure ?_))
      obtain ⟨H', I', q'⟩ := hp
      have J := (I'.kept (h' := h') (t' := s₁.toks) hk)
      exact hR true _ ⟨H', Inv.alike J rfl rfl (allBare_setGen (s := s₁) I'.bare rfl), q'⟩
theorem any_loop {A : Around} {Q : VK} {a : Addr} {g : Nat} {R : Result → Shared → Prop} (hh : A.handled = none) (hd : A.depth < recursionLimit)
    (hR : ∀ k s', Home X pins σ Q k s' → R (.ok (.ret (.bool k))) s') : ∀ (n : Nat) (s : Shared), s.heap.IsGen a g → s.heap.NoLimit → AllBare s.gens →
      (∃ gs, s.gens[g]? = some gs ∧ ∀ s'', s''.heap = s.heap → s''.os = s.os → AllBare s''.gens → gs.Goes (model X.prog X.w) A.in1.in1 (fun n s₀ r s₁ => r = .ok .next ∧ GEnd X pins σ Q true n s₀ s₁) (GItem X pins σ Q true a g) n (.send .none) s'') →
      codeAny (model X.prog X.w) A (.builtin "any.loop" ⟨[.ref a], []⟩) R s := by
  intro n
  induction n with
  | zero =>
    intro s hg hl hb ⟨gs, hgs, hgo⟩
    refine codeAny_builtin F.entry_any_loop ?_
    rw [Around.under_plainId F.plain_any_loop _]
    show wpAny _ A.in1 (pyNext (.ref a) >>= _) _ _ s
    refine wpAny_bind (wpAny_pyNext_genexpQ (A := A.in1) (n := 0) (P := GEnd X pins σ Q true) hh hl hd hg hgs (hgo _ rfl rfl (allBare_setGen hb rfl)) (fun v s₁ gs' hbare hv => ?_) (fun s₁ hp h' hk => ?_))
    · obtain ⟨k, rfl, hb1, h1, h2⟩ := hv
      refine wpAny_bind (wpAny_holding (wpAny_truthy_bool ?_))
      refine wpAny_bind (wpAny_letGo ?_)
      cases k with
      | false => obtain ⟨_, _, h3⟩ := h2 (by decide); exact (h3 s₁ rfl rfl hb1).elim
      | true =>
        simp only [if_true]
        refine wpAny_bind (wpAny_rule (wpAny_pure ?_))
        exact hR true _ ((h1 rfl).alike rfl rfl (allBare_setGen hb1 hbare))
    · refine wpAny_bind (wpAny_rule (wpAny_pure ?_))
      obtain ⟨H', I', q'⟩ := hp
      have J := (I'.kept (h' := h') (t' := s₁.toks) hk)
      exact hR false _ ⟨H', Inv.alike J rfl rfl (allBare_setGen (s := s₁) I'.bare rfl), q'⟩
  | succ n ih =>
    intro s hg hl hb ⟨gs, hgs, hgo⟩
    have hgl : g < s.gens.size := (Array.getElem?_eq_some_iff.mp hgs).1
    refine codeAny_builtin F.entry_any_loop ?_
    rw [Around.under_plainId F.plain_any_loop _]
    show wpAny _ A.in1 (pyNext (.ref a) >>= _) _ _ s
    refine wpAny_bind (wpAny_gsz (n := g + 1) hgl (wpAny_pyNext_genexpQ (A := A.in1) (n := n + 1) (P := GEnd X pins σ Q true) hh hl hd hg hgs (hgo _ rfl rfl (allBare_setGen hb rfl)) (fun v s₁ gs' hbare hv => ?_) (fun s₁ hp h' hk => ?_)))
    · intro hsz
      have hsz1 : g < s₁.gens.size := by
        have q : (s₁.setGen g gs').gens.size = s₁.gens.size := setGen_size _ _ _
        have hsz' : g + 1 ≤ (s₁.setGen g gs').gens.size := hsz
        omega
      obtain ⟨k, rfl, hb1, h1, h2⟩ := hv
      refine wpAny_bind (wpAny_holding (wpAny_truthy_bool ?_))
      refine wpAny_bind (wpAny_letGo ?_)
      cases k with
      | false =>
        simp only [Bool.false_eq_true, if_false]
        obtain ⟨hg1, hl1, h3⟩ := h2 (by decide)
        refine wpAny_pure ⟨plainId_quiet F.plain_any_loop _, ih (s₁.setGen g gs') hg1 hl1 (allBare_setGen hb1 hbare) ⟨gs', setGen_at hsz1, fun s'' e1 e2 e3 => h3 s'' e1 e2 e3⟩⟩
      | true =>
        simp only [if_true]
        refine wpAny_bind (wpAny_rule (wpAny_pure ?_))
        exact hR true _ ((h1 rfl).alike rfl rfl (allBare_setGen hb1 hbare))
    · intro _
      refine wpAny_bind (wpAny_rule (wpAny_pure ?_))
      obtain ⟨H', I', q'⟩ := hp
      have J := (I'.kept (h' := h') (t' := s₁.toks) hk)
      exact hR false _ ⟨H', Inv.alike J rfl rfl (allBare_setGen (s := s₁) I'.bare rfl), q'⟩
/-- a generator that has not begun -/
def Ready (X : Cx) (pins : List (Addr × Obj)) (σ : L2.St) (Q : VK) (stop : Bool) (k : Nat) (u : Value) (s' : Shared) : Prop :=
  ∃ (a : Addr) (g n : Nat) (gs : GenState), u = .ref a ∧ s'.heap.IsGen a g ∧ s'.heap.NoLimit ∧ AllBare s'.gens ∧ s'.gens[g]? = some gs ∧
    ∀ (A : Around) (s'' : Shared), Room (k + 1) A → A.frames = some X.stack → s''.heap = s'.heap → s''.os = s'.os → AllBare s''.gens → gs.Goes (model X.prog X.w) A (fun n s₀ r s₁ => r = .ok .next ∧ GEnd X pins σ Q stop n s₀ s₁) (GItem X pins σ Q stop a g) n (.send .none) s''
/-- what the element, the tests, the target are in the generator's frame -/
structure GenPs (X : Cx) (k : Nat) (scope : Scope) (tg elt : Expr) (ifs : List Expr) (g : L2.TG) (tt : TT) (te : TE) : Prop where
  g : ∀ (A : Around) (s : Shared) (H : Hp) (C : Addr) (code : Value) (fp : List Addr) (pn : List (Addr × Obj)), Room k (A.deeper (gnEnv X scope C code)) → PG (gcx X A s H (gnEnv X scope C code) fp pn) tg g
  t : ∀ (A : Around) (s : Shared) (H : Hp) (C : Addr) (code : Value) (fp : List Addr) (pn : List (Addr × Obj)), Room k (A.deeper (gnEnv X scope C code)) → PTs (gcx X A s H (gnEnv X scope C code) fp pn) ifs tt
  e : ∀ (A : Around) (s : Shared) (H : Hp) (C : Addr) (code : Value) (fp : List Addr) (pn : List (Addr × Obj)), Room k (A.deeper (gnEnv X scope C code)) → PE (gcx X A s H (gnEnv X scope C code) fp pn) elt te
theorem gen_make {stop : Bool} {c P : Addr} {k : Nat} {wi : TI} {g : L2.TG} {tt : TT} {te : TE} {Q : VK} {elt tg iter : Expr} {ifs : List Expr} {scope : Scope} {own : List (Str × Nat)} {gpos : Pos}
    (hc : X.calm = true) (hN : X.N.Nodup) (hr : X.A.depth < recursionLimit) (TB : GxR.TabB X.base X.mg c P) (hcode : X.env.code = .ref c) (S : GnS X.N X.env.scope scope own) (hi : PI X tg iter wi) (ps : GenPs X k scope tg elt ifs g tt te)
    (hs : ∀ v, genFold iter X.env v = pure v) (I : Inv X pins σ H s) (h : tGen stop P wi g tt te (own.map (·.2)) σ H Q) :
    wpAny (model X.prog X.w) X.A (eval (.GeneratorExp elt [⟨tg, iter, ifs, 0⟩] scope gpos) X.env) (Ready X pins σ Q stop k) X.xe s := by
  have hfree : ∀ y ∈ scope.names, y.2 = .free → ∃ c, X.env.cells.lookup y.1 = some c := fun y hy e => by
    rcases S.free y hy e with k | k
    · exact I.ok.has _ (.inl k)
    · exact I.ok.has _ (.inr k)
  refine wpAny_GeneratorExp_make S.co (closure_ok hfree) S.cell S.dot S.kind hr (thn (hi.run pins s σ H _ I h) fun xv s1 h1 => thn h1 fun itv s2 h2 => ?_) hs
  obtain ⟨it, fp, tn, J, H2, rfl, I2, T, st2, f2, ⟨ps0, hP, ht⟩, q⟩ := h2
  refine ⟨I2.nolimit, ?_⟩
  have hPs : s2.heap.get? P = some { cls := .none, data := .fields ps0 } := I2.hok P _ hP
  have hPlt : P < s2.heap.objs.size := Heap.lt_size hPs
  have cd : PySem.W.CodeHd s2.heap c P := TB.code.keeps fun b u e => I2.bk b u e
  -- behind the code object's lookup
  have cont : ∀ (code : Value) (h3 : Heap) (tk : Nat) (ps' : Array Value), Heap.ExtBut P s2.heap h3 → h3.get? P = some { cls := .none, data := .fields ps' } → (∃ more, ps' = ps0 ++ more) → TriplesOk ps'.toList →
      wpAny (model X.prog X.w) X.A (builtinsFor X.env.globals X.env.builtins) (fun bi s₄ => ∀ h', h'.Ns s₄.heap.objs.size (fun y => if y = ".0" then some (.ref it) else none) → Heap.SameBut s₄.heap.objs.size (s₄.heap.push { cls := .type "frame", data := .dict #[] }) h' →
        Ready X pins σ Q stop k (.ref h'.objs.size) { s₄ with
          gens := s₄.gens.push (.fresh (.compStart (.GeneratorExp elt [⟨tg, iter, ifs, 0⟩] scope gpos) 0 (.ref it) .none (genEnv scope (cloFrom X.env.cells scope.names []) s₄.heap.objs.size code bi X.env))),
          toks := s₄.toks + 1 + 1 + 1,
          heap := h'.push { cls := .type "generator", data := .fields #[.int s₄.gens.size 0, .str "<genexpr>" (s₄.toks + 1), .str (X.env.qual ++ "<genexpr>") (s₄.toks + 1 + 1)] } }) X.xe { s2 with heap := h3, toks := tk } := by
    intro code h3 tk ps' hx hP3 hmore ht3
    obtain ⟨bm, ob, e1, e2, e3, e4, e5, e6, e7, e8⟩ := TB.bm
    have keep3 : ∀ b u, b ≠ P → s2.heap.get? b = some u → h3.get? b = some u := fun b u hb e => hx b u hb e
    refine wpAny_builtinsFor (m := X.mg) (by rw [I2.ok.glob]; exact (I2.mod.glob.keeps I2.bk).extBut hx TB.gP) e1 e2 (keep3 _ _ e4 (I2.bk _ _ e5)) e6 e7 e8 ?_
    obtain ⟨more, em⟩ := hmore
    have I3 : Inv X pins σ (upd H2 P (.tbl (ps0 ++ more))) { s2 with heap := h3, toks := tk } := GxR.inv_tab (g' := s2.gens) (d' := s2.drawn) I2 hP keep3 (by rw [← em]; exact hP3) I2.bare
    obtain ⟨W, ⟨m, w0⟩, turn⟩ := q (upd H2 P (.tbl (ps0 ++ more))) ⟨⟨ps0 ++ more, upd_same, by rw [← em]; exact ht3⟩, fun b hb => upd_ne hb⟩
    generalize hs3 : ({ s2 with heap := h3, toks := tk } : Shared) = s3 at I3 ⊢
    have h3s : s3.heap = h3 := by rw [← hs3]
    generalize hH3 : upd H2 P (.tbl (ps0 ++ more)) = H3 at I3 w0
    have nP : ∀ b ∈ fp, b ≠ P := fun b hb z => by
      have := (f2 b hb).1
      rw [z, hP] at this
      cases this
    have f3 : ∀ b ∈ fp, FpOk X pins H3 b := fun b hb => ⟨by rw [← hH3, upd_ne (nP b hb)]; exact (f2 b hb).1, (f2 b hb).2⟩
    have st3 : tn 0 s3.heap := T.keep _ _ _ st2 fun b hb o e => by rw [h3s]; exact keep3 b o (nP b hb) e
    have sz : ∀ b ∈ fp, b < s3.heap.objs.size := fun b hb => by
      obtain ⟨o, e, _⟩ := T.obj _ _ st3 b hb
      exact Heap.lt_size e
    intro h' hn' hs'
    have hsz : h'.objs.size = s3.heap.objs.size + 1 := by rw [hs'.1, Heap.size_push]
    have keep' : ∀ b o, s3.heap.get? b = some o → h'.get? b = some o := fun b o e => hs'.extBut b o (Nat.ne_of_lt (Heap.lt_size e)) (Heap.get?_push_of_some _ e)
    generalize hgo : ({ cls := .type "generator", data := .fields #[.int s3.gens.size 0, .str "<genexpr>" (s3.toks + 1), .str (X.env.qual ++ "<genexpr>") (s3.toks + 1 + 1)] } : Obj) = go
    have gen_ : ∀ h : Heap, h.get? h'.objs.size = some go → h.IsGen h'.objs.size s3.gens.size := fun h e => ⟨go, _, _, e, by rw [← hgo], by rw [← hgo], by rw [← hgo]⟩
    have hpush : (h'.push go).get? h'.objs.size = some go := Heap.get?_push_size _ (by rw [← hgo]; rfl)
    have hcell : ∀ v, go.data ≠ .cell v := fun v z => by rw [← hgo] at z; cases z
    have keep5 : ∀ b o, s3.heap.get? b = some o → (h'.push go).get? b = some o := fun b o e => Heap.get?_push_of_some _ (keep' b o e)
    refine ⟨h'.objs.size, s3.gens.size, m + 1, _, rfl, gen_ _ hpush, I3.nolimit.keeps keep5, I3.bare.push rfl, Array.getElem?_push_size .., fun A s'' hrA hfr eh eo eb => ⟨rfl, ?_⟩⟩
    have I4 := gen_start (A := A) (own := own) (code := code) (it := .ref it) (tk := s3.toks) (gens' := s''.gens) (go := go) I3 S hN (fun b hb => ⟨f3 b hb, sz b hb⟩) hrA.hd hfr hn' keep' hsz eb hcell hpush
    have I5 : Inv (gcx X A s3 H3 (gnEnv X scope s3.heap.objs.size code) fp [(h'.objs.size, go)]) [] (L2.wipe σ (own.map (·.2))) H3 s'' := Inv.alike I4 eh eo eb
    have st5 : tn 0 s''.heap := T.keep _ _ _ st3 fun b hb o e => by rw [eh]; exact keep5 b o e
    have ha : h'.objs.size ∉ fp := fun hm => Nat.lt_irrefl _ (Nat.lt_of_lt_of_le (sz _ hm) (by rw [hsz]; exact Nat.le_succ _))
    have rm := hrA.deeper (gnEnv X scope s3.heap.objs.size code)
    have loop := gen_loop (pos := gpos) (iter := iter) hc S.co I3 f3 gen_ T (ps.g A s3 H3 s3.heap.objs.size code fp [(h'.objs.size, go)] rm) (ps.t A s3 H3 s3.heap.objs.size code fp [(h'.objs.size, go)] rm) (ps.e A s3 H3 s3.heap.objs.size code fp [(h'.objs.size, go)] rm) turn ha m (m + 1) 0 s'' s'' H3 (Nat.lt_succ_self _) w0 I5 st5 (fun b hb => (f3 b hb).1)
    show Seg _ A _ _ _ s'' _ ((compStart (.GeneratorExp elt [⟨tg, iter, ifs, 0⟩] scope gpos) 0 (.ref it) .none (gnEnv X scope s3.heap.objs.size code)).onRaise (leaving (gnEnv X scope s3.heap.objs.size code))) [] s''
    unfold compStart
    rw [Sem.onRaise_eq_wrap]
    show Seg _ A _ _ _ s'' _ ((ask >>= _).wrap _ _ _ _) [] s''
    refine seg_bind_wrap (wpAny_askSetting ?_)
    split
    · exact seg_again rfl loop
    · first
        | exact seg_bind_wrap (wpAny_rule (seg_bind_wrap (wpAny_standAt (seg_bind_wrap (T.self _ 0 s'' _ _ st5 (seg_again rfl loop))))))
        | (refine seg_bind_wrap (wpAny_rule ?_); show Seg _ A _ _ _ s'' _ ((standAt iter.pos >>= _).wrap _ _ _ _) [] s''; exact seg_bind_wrap (wpAny_standAt (seg_bind_wrap (T.self _ 0 s'' _ _ st5 (seg_again rfl loop)))))
  cases hf : codeAmong gpos ps0.toList with
  | none =>
    refine wpAny_genexprCodeX hcode (cd.code hPs ht) (cd.tab hPs) hf fun c' h' tk hx hge hlt hco' _ htab' _ => ?_
    obtain ⟨o1, vs, f1, tf, fl, tg, inF, tx, tt, op, _, _, _, _, _, _, _, _, _, htr, _⟩ := hco'
    exact cont _ h' tk _ hx htab'.2 ⟨_, rfl⟩ htr
  | some cv =>
    refine wpAny_genexprCode_hit hcode (cd.code hPs ht) hf ?_
    exact cont cv s2.heap s2.toks ps0 (Heap.ExtBut.refl _ _) hPs ⟨#[], by simp⟩ ht
theorem pe_all {c P : Addr} {k : Nat} {wi : TI} {g : L2.TG} {tt : TT} {te : TE} {elt tg iter : Expr} {ifs : List Expr} {scope : Scope} {own : List (Str × Nat)} {gpos p pos : Pos}
    (hr : Room (k + 3) X.A) (hc : X.calm = true) (hN : X.N.Nodup) (hg : Gl X "all") (hm : X.mg "all" = none) (TB : GxR.TabB X.base X.mg c P) (hcode : X.env.code = .ref c) (S : GnS X.N X.env.scope scope own) (hi : PI X tg iter wi) (ps : GenPs X k scope tg elt ifs g tt te)
    (hs : ∀ v, genFold iter X.env v = pure v)
    (he : starEach [.GeneratorExp elt [⟨tg, iter, ifs, 0⟩] scope gpos] X.env = (false, eval (.GeneratorExp elt [⟨tg, iter, ifs, 0⟩] scope gpos) X.env) :: starEach [] X.env := by rfl) :
    PE X (.Call (.Name "all" p) [.GeneratorExp elt [⟨tg, iter, ifs, 0⟩] scope gpos] [] pos) (tGen false P wi g tt te (own.map (·.2))) := by
  refine ⟨fun pins s σ H Q I h => ?_⟩
  refine wpAny_Call_Name_kw (ld_blt I hg hm (by rfl : bootBuiltins "all" = some (.builtin "all")) ?_)
  refine PyProof.Rows.callWith_builtin1 ?_ he (by rfl)
  rw [he]
  show wpAny _ _ (spliced ((false, eval (.GeneratorExp elt [⟨tg, iter, ifs, 0⟩] scope gpos) X.env) :: backTo pos (starEach [] X.env))) _ _ s
  refine Calls.spliced_cons (thn (gen_make hc hN hr.depth TB hcode S hi ps hs I h) fun u s1 hG => ?_)
  obtain ⟨a, gn, n, gs, rfl, hgen, hl, hb, hgs, go⟩ := hG
  refine Calls.spliced_nil ?_
  refine call_function_tree F.kind_all F.plain_all F.entry_all (F.args_all1 _) ?_
  unfold Builtin.«all»
  refine wpAny_bind (m := oneArg "all" _) (wpAny_pure ?_)
  refine wpAny_bind (wpAny_pyIter_gen hgen ?_)
  refine wpAny_pure ⟨plainId_quiet F.plain_all_loop _, all_loop (A := X.A) (X := X) (pins := pins) (σ := σ) (Q := Q) hr.hd hr.depth (fun k s' hh => ?_) n s1 hgen hl hb ⟨gs, hgs, fun s'' e1 e2 e3 => go _ s'' ?_ I.ok.frames e1 e2 e3⟩⟩
  · obtain ⟨H', I', q'⟩ := hh
    exact ⟨.bl k, H', I', rfl, q'⟩
  · exact (hr.in1).in1
theorem pe_any {c P : Addr} {k : Nat} {wi : TI} {g : L2.TG} {tt : TT} {te : TE} {elt tg iter : Expr} {ifs : List Expr} {scope : Scope} {own : List (Str × Nat)} {gpos p pos : Pos}
    (hr : Room (k + 3) X.A) (hc : X.calm = true) (hN : X.N.Nodup) (hg : Gl X "any") (hm : X.mg "any" = none) (TB : GxR.TabB X.base X.mg c P) (hcode : X.env.code = .ref c) (S : GnS X.N X.env.scope scope own) (hi : PI X tg iter wi) (ps : GenPs X k scope tg elt ifs g tt te)
    (hs : ∀ v, genFold iter X.env v = pure v)
    (he : starEach [.GeneratorExp elt [⟨tg, iter, ifs, 0⟩] scope gpos] X.env = (false, eval (.GeneratorExp elt [⟨tg, iter, ifs, 0⟩] scope gpos) X.env) :: starEach [] X.env := by rfl) :
    PE X (.Call (.Name "any" p) [.GeneratorExp elt [⟨tg, iter, ifs, 0⟩] scope gpos] [] pos) (tGen true P wi g tt te (own.map (·.2))) := by
  refine ⟨fun pins s σ H Q I h => ?_⟩
  refine wpAny_Call_Name_kw (ld_blt I hg hm boot_any ?_)
  refine PyProof.Rows.callWith_builtin1 ?_ he (by rfl)
  rw [he]
  show wpAny _ _ (spliced ((false, eval (.GeneratorExp elt [⟨tg, iter, ifs, 0⟩] scope gpos) X.env) :: backTo pos (starEach [] X.env))) _ _ s
  refine Calls.spliced_cons (thn (gen_make hc hN hr.depth TB hcode S hi ps hs I h) fun u s1 hG => ?_)
  obtain ⟨a, gn, n, gs, rfl, hgen, hl, hb, hgs, go⟩ := hG
  refine Calls.spliced_nil ?_
  refine call_function_tree F.kind_any F.plain_any F.entry_any (F.args_any1 _) ?_
  unfold Builtin.«any»
  refine wpAny_bind (m := oneArg "any" _) (wpAny_pure ?_)
  refine wpAny_bind (wpAny_pyIter_gen hgen ?_)
  refine wpAny_pure ⟨plainId_quiet F.plain_any_loop _, any_loop (A := X.A) (X := X) (pins := pins) (σ := σ) (Q := Q) hr.hd hr.depth (fun k s' hh => ?_) n s1 hgen hl hb ⟨gs, hgs, fun s'' e1 e2 e3 => go _ s'' ?_ I.ok.frames e1 e2 e3⟩⟩
  · obtain ⟨H', I', q'⟩ := hh
    exact ⟨.bl k, H', I', rfl, q'⟩
  · exact (hr.in1).in1
end

/-! ### as plain values -/
def genF (stop : Bool) (own : List Nat) (T : Tg) (tt : M Bool) (elt : M PyData) : List PyData → M PyData
  | [] => .ret (.bool (!stop))
  | d :: ds => fun r => if noIo r own then (match T d (wipeR r own) with
    | some r1 => match tt r1 with
      | .ok true r2 => match elt r2 with
        | .ok (.bool k) r3 => if k = stop then .ok (.bool stop) r3 else genF stop own T tt elt ds r3
        | _ => .st
      | .ok false r2 => genF stop own T tt elt ds r2
      | _ => .st
    | none => .st) else .st
def genB (stop : Bool) (own : List Nat) (T : Tg) (tt : M Bool) (elt : M PyData) (ds : List PyData) : M PyData := fun r => match genF stop own T tt elt ds r with
  | .ok d r2 => if noIo r2 own then .ok d (unwipe own r r2) else .st
  | _ => .st
def dGen (stop : Bool) (own : List Nat) (it : M (List PyData)) (T : Tg) (tt : M Bool) (elt : M PyData) : M PyData := it.bind (genB stop own T tt elt)
section
variable {K : PySem.W.Frag} {TG : TGx} {W : WX} {it : M (List PyData)} {T : Tg} {ns : List Nat} {tt : M Bool} {elt : M PyData} {own : List Nat} {stop : Bool}
theorem SR.tab {B : List (Nat × Addr)} {F G0 G H H2 : Hp} {r : List Sl} {s : L2.St} {P : Addr} (i : SR K TG B F G0 G H r s) (hP : (⟨P, none⟩ : TbK) ∈ TG ∧ ∀ z ∈ TG, z.P = P → z.q = none) (t : GxR.Tabbed P H H2) : SR K TG B F G0 G H2 r s := by
  obtain ⟨ps, hps, _⟩ := i.tb _ hP.1
  have hps : H P = some (.tbl ps) := hps
  have ne : ∀ b u, H b = some u → (∀ q, u ≠ .tbl q) → b ≠ P := fun b u e h z => by
    rw [z, hps] at e
    cases e
    exact h ps rfl
  refine ⟨i.len, fun b u q => ?_, fun b u q => ?_, i.g0, i.fg, i.gt, i.ft, fun Z hZ => ?_, i.vals, fun j ds q => ?_, i.sep, i.ios, i.evs⟩
  · rw [t.2 b (ne b u (i.gh _ _ q) fun p z => i.gt b p (by rw [q, z]))]
    exact i.gh _ _ q
  · rw [t.2 b (ne b u (i.fh _ _ q) fun p z => i.ft b p (by rw [q, z]))]
    exact i.fh _ _ q
  · by_cases z : Z.P = P
    · obtain ⟨ps', a, b⟩ := t.1
      exact ⟨ps', by rw [z]; exact a, b, fun q hq => by rw [hP.2 Z hZ z] at hq; cases hq⟩
    · exact (i.tb Z hZ).keep (fun _ e => by rw [t.2 _ z]; exact e) fun c q e => by rw [t.2 c (ne c _ e fun _ => LamX.codeO_ne _)]; exact e
  · obtain ⟨a, xs, h1, h2, h3⟩ := i.owns j ds q
    exact ⟨a, xs, h1, by rw [t.2 a (ne a _ h2 h3.1.notTbl)]; exact h2, h3⟩
theorem genF_cons {d : PyData} {ds : List PyData} {r : List Sl} : genF stop own T tt elt (d :: ds) r = if noIo r own then (match T d (wipeR r own) with
    | some r1 => match tt r1 with
      | .ok true r2 => match elt r2 with
        | .ok (.bool k) r3 => if k = stop then .ok (.bool stop) r3 else genF stop own T tt elt ds r3
        | _ => .st
      | .ok false r2 => genF stop own T tt elt ds r2
      | _ => .st
    | none => .st) else .st := rfl
theorem rd_gen {s : L2.St} {H : Hp} {Q : VK} {P : Addr} (hP : (⟨P, none⟩ : TbK) ∈ TG ∧ ∀ z ∈ TG, z.P = P → z.q = none) (hns : ∀ i ∈ ns, i ∈ own) (h : rd K TG W (RE K) (dGen stop own it T tt elt) s H Q) :
    tGen stop P (rdI K TG W it) (rdG K TG ns T) (rd K TG W0 RB tt) (rd K TG W0 (RE K) elt) own s H Q := by
  obtain ⟨B, F, G0, G, z, i, p⟩ := h
  refine ⟨B, F, G0, G, z, i, ?_⟩
  unfold dGen M.bind at p
  cases hr : it z with
  | st => rw [hr] at p; exact p
  | ex x r1 => rw [hr] at p; exact p
  | ok ds r1 =>
    rw [hr] at p
    have p : post K TG W (RE K) B F G0 G s Q (genB stop own T tt elt ds r1) := p
    unfold genB at p
    intro G1 H1 J e1 i1 ok
    refine ⟨(i1.tb _ hP.1).g, fun H2 tH => ?_⟩
    have i2 := i1.tab hP tH
    let k : Res PyData → Prop := fun x => ∃ out r2, x = .ok out r2 ∧ noIo r2 own = true ∧ ∀ G' H' v, Same G G' → SR K TG B F G0 G' H' (unwipe own r1 r2) s → Rv K G' out v → Q v H'
    have hk : k (genF stop own T tt elt ds r1) := by
      cases hq : genF stop own T tt elt ds r1 with
      | ok out r2 =>
        rw [hq] at p
        have p : post K TG W (RE K) B F G0 G s Q (if noIo r2 own then .ok out (unwipe own r1 r2) else .st) := p
        split at p
        · rename_i hio; exact ⟨out, r2, rfl, hio, p⟩
        · exact p.elim
      | ex x r2 => rw [hq] at p; exact p.elim
      | st => rw [hq] at p; exact p.elim
    have fin : ∀ {G' H' r2 s2 b}, Same G1 G' → Like own s s2 → SR K TG B F G0 G' H' r2 s2 → k (.ok (.bool b) r2) → Q (.bl b) H' := fun {G' H' r2 s2 b} e l i' ⟨out, r3, ho, hio, hp⟩ => by
      cases ho
      refine hp G' H' (.bl b) (e1.trans e) (i'.unwipe l hio fun v d q => ?_) rfl
      obtain ⟨u, h1, h2⟩ := i1.vals v d q
      exact ⟨u, h1, Rv.mono e _ _ h2⟩
    have hst : ¬ k .st := fun ⟨_, _, e, _⟩ => by cases e
    refine ⟨fun i m H' => m = ds.length - i ∧ i ≤ ds.length ∧ ∃ G2 r2 s2, Same G1 G2 ∧ Like own s s2 ∧ SR K TG B F G0 G2 H' r2 s2 ∧ k (genF stop own T tt elt (ds.drop i) r2), ⟨ds.length, rfl, Nat.zero_le _, G1, r1, s, .refl _, .refl _ _, i2, hk⟩, ?_⟩
    rintro i m H' ⟨rfl, hi, G2, r2, s2, e2, l2, i2, hk⟩
    have w2 : L2.wipe s2 own = L2.wipe s own := wipe_set l2
    by_cases hlt : i < ds.length
    · refine .inr ⟨ok.go i H' (e2.trans i2.gh) hlt, fun H3 => ∃ G2 r2 s2, Same G1 G2 ∧ Like own s s2 ∧ SR K TG B F G0 G2 H3 r2 s2 ∧ k (genF stop own T tt elt (ds.drop (i + 1)) r2), fun H3 h3 => ⟨ds.length - (i + 1), by omega, rfl, hlt, h3⟩, fun x H3 y => ?_⟩
      obtain ⟨d, G3, hd, gr, rv⟩ := ok.yld i H' x H3 G2 e2 i2.gh hlt y
      have hdrop : ds.drop i = d :: ds.drop (i + 1) := by
        rw [List.drop_eq_getElem_cons hlt]
        rw [List.getElem?_eq_getElem hlt] at hd
        rw [Option.some.inj hd]
      rw [hdrop, genF_cons] at hk
      rw [← w2]
      split at hk
      · rename_i hio
        cases ht : T d (wipeR r2 own) with
        | none => rw [ht] at hk; exact absurd hk hst
        | some r3 =>
          rw [ht] at hk
          refine ⟨B, _, G0, G3, _, d, r3, (i2.wipe hio).grow gr, rv, ht, fun G4 H4 s4 e4 i4 l4 => ?_⟩
          have l4 : Like own (L2.wipe s2 own) s4 := l4.sub hns
          have lk : Like own s2 s4 := ⟨l4.1.trans wipe_self.1, fun j n => (l4.2 j n).trans (wipe_self.2 j n)⟩
          have ls : Like own s s4 := ⟨lk.1.trans l2.1, fun j n => (lk.2 j n).trans (l2.2 j n)⟩
          refine ⟨wipe_set lk, B, _, G0, G4, r3, i4, ?_⟩
          have hk : k (match tt r3 with
            | .ok true r2 => match elt r2 with
              | .ok (.bool k) r3 => if k = stop then .ok (.bool stop) r3 else genF stop own T tt elt (ds.drop (i + 1)) r3
              | _ => .st
            | .ok false r2 => genF stop own T tt elt (ds.drop (i + 1)) r2
            | _ => .st) := hk
          have e14 : Same G1 G4 := e2.trans (gr.g.trans e4)
          cases hb : tt r3 with
          | st => rw [hb] at hk; exact absurd hk hst
          | ex _ _ => rw [hb] at hk; exact absurd hk hst
          | ok b r5 =>
            rw [hb] at hk
            intro G5 H5 b' e5 i5 hbb
            have hbb : b = b' := hbb
            subst hbb
            cases b with
            | false => exact ⟨G5, r5, s4, e14.trans e5, ls, i5, hk⟩
            | true =>
              have hk : k (match elt r5 with
                | .ok (.bool k) r3 => if k = stop then .ok (.bool stop) r3 else genF stop own T tt elt (ds.drop (i + 1)) r3
                | _ => .st) := hk
              refine ⟨B, _, G0, G5, r5, i5, ?_⟩
              cases he : elt r5 with
              | st => rw [he] at hk; exact absurd hk hst
              | ex _ _ => rw [he] at hk; exact absurd hk hst
              | ok y r6 =>
                rw [he] at hk
                intro G6 H6 v e6 i6 hv
                cases y with
                | bool b =>
                  refine ⟨b, hv, ?_⟩
                  have hk : k (if b = stop then .ok (.bool stop) r6 else genF stop own T tt elt (ds.drop (i + 1)) r6) := hk
                  split
                  · rename_i hbs
                    rw [if_pos hbs] at hk
                    exact fin ((e14.trans e5).trans e6) ls i6 hk
                  · rename_i hbs
                    rw [if_neg hbs] at hk
                    exact ⟨G6, r6, s4, (e14.trans e5).trans e6, ls, i6, hk⟩
                | none => exact absurd hk hst
                | int _ => exact absurd hk hst
                | str _ => exact absurd hk hst
                | list _ => exact absurd hk hst
                | tuple _ => exact absurd hk hst
                | dict _ => exact absurd hk hst
      · exact absurd hk hst
    · have hl : i = ds.length := by omega
      subst hl
      rw [List.drop_length] at hk
      exact .inl ⟨ok.stop H' (e2.trans i2.gh), fin e2 l2 i2 hk⟩
end
section
variable {X : Cx} {TG : TGx} {W : WX} {elt tg iter : Expr} {ifs : List Expr} {scope : Scope} {own : List (Str × Nat)} {ns : List Nat} {it : M (List PyData)} {T : Tg} {t : M Bool} {d : M PyData} {c P : Addr} {k : Nat} {gpos p pos : Pos}
/-- the parts, in the generator's frame -/
structure GenDs (X : Cx) (TG : TGx) (k : Nat) (scope : Scope) (tg elt : Expr) (ifs : List Expr) (ns : List Nat) (T : Tg) (t : M Bool) (d : M PyData) : Prop where
  g : ∀ (A : Around) (s : Shared) (H : Hp) (C : Addr) (code : Value) (fp : List Addr) (pn : List (Addr × Obj)), Room k (A.deeper (gnEnv X scope C code)) → DG (gcx X A s H (gnEnv X scope C code) fp pn) TG tg ns T
  t : ∀ (A : Around) (s : Shared) (H : Hp) (C : Addr) (code : Value) (fp : List Addr) (pn : List (Addr × Obj)), Room k (A.deeper (gnEnv X scope C code)) → DTs (gcx X A s H (gnEnv X scope C code) fp pn) TG W0 ifs t
  e : ∀ (A : Around) (s : Shared) (H : Hp) (C : Addr) (code : Value) (fp : List Addr) (pn : List (Addr × Obj)), Room k (A.deeper (gnEnv X scope C code)) → DE (gcx X A s H (gnEnv X scope C code) fp pn) TG W0 elt d
theorem GenDs.ps (h : GenDs X TG k scope tg elt ifs ns T t d) : GenPs X k scope tg elt ifs (rdG X.K TG ns T) (rd X.K TG W0 RB t) (rd X.K TG W0 (RE X.K) d) := ⟨h.g, h.t, h.e⟩
theorem de_all (hr : Room (k + 3) X.A) (hc : X.calm = true) (hN : X.N.Nodup) (hg : Gl X "all") (hm : X.mg "all" = none) (TB : GxR.TabB X.base X.mg c P) (hP : (⟨P, none⟩ : TbK) ∈ TG ∧ ∀ z ∈ TG, z.P = P → z.q = none) (hcode : X.env.code = .ref c) (S : GnS X.N X.env.scope scope own) (hi : DI X TG W tg iter it)
    (ps : GenDs X TG k scope tg elt ifs ns T t d) (hns : ∀ i ∈ ns, i ∈ own.map (·.2) := by decide) (hs : ∀ v, genFold iter X.env v = pure v := by intro _; rfl)
    (he : starEach [.GeneratorExp elt [⟨tg, iter, ifs, 0⟩] scope gpos] X.env = (false, eval (.GeneratorExp elt [⟨tg, iter, ifs, 0⟩] scope gpos) X.env) :: starEach [] X.env := by rfl) :
    DE X TG W (.Call (.Name "all" p) [.GeneratorExp elt [⟨tg, iter, ifs, 0⟩] scope gpos] [] pos) (dGen false (own.map (·.2)) it T t d) := PE_imp (pe_all hr hc hN hg hm TB hcode S hi ps.ps hs he) fun s H Q q => rd_gen hP hns q
theorem de_any (hr : Room (k + 3) X.A) (hc : X.calm = true) (hN : X.N.Nodup) (hg : Gl X "any") (hm : X.mg "any" = none) (TB : GxR.TabB X.base X.mg c P) (hP : (⟨P, none⟩ : TbK) ∈ TG ∧ ∀ z ∈ TG, z.P = P → z.q = none) (hcode : X.env.code = .ref c) (S : GnS X.N X.env.scope scope own) (hi : DI X TG W tg iter it)
    (ps : GenDs X TG k scope tg elt ifs ns T t d) (hns : ∀ i ∈ ns, i ∈ own.map (·.2) := by decide) (hs : ∀ v, genFold iter X.env v = pure v := by intro _; rfl)
    (he : starEach [.GeneratorExp elt [⟨tg, iter, ifs, 0⟩] scope gpos] X.env = (false, eval (.GeneratorExp elt [⟨tg, iter, ifs, 0⟩] scope gpos) X.env) :: starEach [] X.env := by rfl) :
    DE X TG W (.Call (.Name "any" p) [.GeneratorExp elt [⟨tg, iter, ifs, 0⟩] scope gpos] [] pos) (dGen true (own.map (·.2)) it T t d) := PE_imp (pe_any hr hc hN hg hm TB hcode S hi ps.ps hs he) fun s H Q q => rd_gen hP hns q
end
end TW

end
section
namespace TW
open PySem PySem.Spec PyProof.Rows L2

/-! ### values that stand in the written part -/
mutual
def rvB (K : PySem.W.Frag) : PyData → Value → Bool
  | .none, u => (match u with | .none => true | _ => false)
  | .bool b, u => (match u with | .bool c => b == c | _ => false)
  | .int i, u => (match u with | .int j _ => decide (i = j) | _ => false)
  | .str x, u => (match u with | .str y _ => decide (x = y) | _ => false)
  | .tuple ds, u => (match u with
    | .ref a => (match K.lookup a with
      | some ⟨.type c, _, .seq its _, _⟩ => decide (c = "tuple") && (decide (its.size ≤ 16777216) && rvBs K ds its.toList)
      | _ => false)
    | _ => false)
  | .list _, _ => false
  | .dict _, _ => false
def rvBs (K : PySem.W.Frag) : List PyData → List Value → Bool
  | [], us => us.isEmpty
  | d :: ds, us => (match us with
    | u :: us => rvB K d u && rvBs K ds us
    | [] => false)
end
mutual
theorem rvB_ok {K : PySem.W.Frag} {G : Hp} : ∀ (d : PyData) (u : Value), rvB K d u = true → ∃ v, RelV v u ∧ Rv K G d v
  | .none, u, h => by
    unfold rvB at h
    split at h
    · exact ⟨.non, rfl, rfl⟩
    · cases h
  | .bool b, u, h => by
    unfold rvB at h
    split at h
    · have := eq_of_beq h
      subst this
      exact ⟨.bl b, rfl, rfl⟩
    · cases h
  | .int i, u, h => by
    unfold rvB at h
    split at h
    · have := of_decide_eq_true h
      subst this
      exact ⟨.int i, ⟨_, rfl⟩, rfl⟩
    · cases h
  | .str x, u, h => by
    unfold rvB at h
    split at h
    · have := of_decide_eq_true h
      subst this
      exact ⟨.str x, ⟨_, rfl⟩, rfl⟩
    · cases h
  | .tuple ds, u, h => by
    unfold rvB at h
    split at h
    · rename_i a
      split at h
      · rename_i c od its n sl hk
        rw [Bool.and_eq_true, Bool.and_eq_true] at h
        obtain ⟨h1, h2, h3⟩ := h
        have h1 := of_decide_eq_true h1
        subst h1
        obtain ⟨vs, k1, k2⟩ := rvBs_ok (G := G) ds its.toList h3
        exact ⟨.ref a, rfl, a, vs, rfl, .inr ⟨_, its, n, hk, rfl, rfl, by rw [sizeLine_eq]; exact of_decide_eq_true h2, k1⟩, k2⟩
      · cases h
    · cases h
  | .list _, u, h => by unfold rvB at h; cases h
  | .dict _, u, h => by unfold rvB at h; cases h
theorem rvBs_ok {K : PySem.W.Frag} {G : Hp} : ∀ (ds : List PyData) (us : List Value), rvBs K ds us = true → ∃ vs, Vals vs us ∧ RvA K G ds vs
  | [], us, h => by
    unfold rvBs at h
    cases us with
    | nil => exact ⟨[], .nil, rfl⟩
    | cons _ _ => cases h
  | d :: ds, us, h => by
    unfold rvBs at h
    cases us with
    | nil => cases h
    | cons u us =>
      have h : (rvB K d u && rvBs K ds us) = true := h
      rw [Bool.and_eq_true] at h
      obtain ⟨v, a1, a2⟩ := rvB_ok (G := G) d u h.1
      obtain ⟨vs, b1, b2⟩ := rvBs_ok (G := G) ds us h.2
      exact ⟨v :: vs, .cons a1 b1, v, vs, rfl, a2, b2⟩
end
/-- the module's name x stands for the value d -/
def conB (K : PySem.W.Frag) (x : Str) (d : PyData) : Bool := match PySem.W.nsIn K mainGlobals x with
  | some (some u) => rvB K d u
  | _ => false
def Con (K : PySem.W.Frag) (mg : Str → Option Value) (x : Str) (d : PyData) : Prop := ∃ u v, mg x = some u ∧ RelV v u ∧ Rv K (fun _ => none) d v
theorem con_ok {K : PySem.W.Frag} {h : Heap} {mg : Str → Option Value} (X : K.In h) (G : h.Ns mainGlobals mg) {x : Str} {d : PyData} (c : conB K x d = true) : Con K mg x d := by
  unfold conB at c
  split at c
  · rename_i u hu
    obtain ⟨v, a, b⟩ := rvB_ok (G := fun _ => none) d u c
    exact ⟨u, v, PySem.W.mg_of X G hu, a, b⟩
  · cases c
section
variable {X : Cx} {TG : TGx} {W : WX} {x : Str} {d : PyData} {pos : Pos}
theorem de_con (hg : Gl X x) (h : Con X.K X.mg x d) (hd : (x == ("__debug__" : Str)) = false := by decide) : DE X TG W (.Name x pos) (dC d) := let ⟨u, v, h1, h2, h3⟩ := h; de_glob hg h1 h2 h3 hd
end
/-! ### defs whose code object is known -/
section
variable {P : Program} {w : World} {K : PySem.W.Frag} {mg : Str → Option Value} {base : Heap} {x qual : Str} {params : Arguments} {body : List Stmt} {scope : Scope} {dvs : List V} {kws : List (Str × V)} {f c : Addr} {fd : FuncData} {TG : TGx}
theorem def_okC {N ps : List Str} {k n m : Nat} {b : M Fl} (F : FunD K x qual params body scope dvs kws f fd) (hc : fd.code = .ref c) (S : FnScope N ps scope) (hn : ps.length = n) (hm : N.length = m)
    (hbody : ∀ (A : Around) (outer : List Env) (s : Shared) (H : Hp) (E : XK), Room k (A.deeper (envOfC qual scope s.heap.objs.size f (.ref c))) →
      DSs (cxOf (L2.CX P w) P w K mg base N qual scope f (.ref c) A outer s H E) TG (fun c dx _ H' => E c dx H') body b) : FnOk P w K mg base (L2.CX P w) (k + 1) f fd ps (SpOf K TG n (fnOf n m b)) := by
  obtain ⟨oc, od, dV, kV, doc, pm, an, cdv, ct, osl, rfl, lk, hcd, _, _⟩ := F.ex
  have hc : cdv = .ref c := hc
  subst hc
  refine fn_of lk hcd S (fun vs H Q E h => by rw [hn]; exact h.1) fun A outer s H vs Q E hr hsp => ⟨_, hbody A outer s H E hr, ?_⟩
  obtain ⟨hl, B, FF, G0, G, sl, i, p⟩ := hsp
  have el : sl.length = n := by rw [i.len, List.length_map, hl]
  refine ⟨B, FF, G0, G, sl ++ List.replicate (m - n) .un, ?_, ?_⟩
  · have := i.pad (m - n)
    unfold L2.start
    rw [hm, hl]
    exact this
  · unfold fnOf at p
    rw [if_pos el] at p
    cases hb : b (sl ++ List.replicate (m - n) .un) with
    | st => rw [hb] at p; exact p
    | ex e r => rw [hb] at p; exact fun G' H' s c dx e' i' => p G' H' c dx s e' i'
    | ok fl r =>
      rw [hb] at p
      cases fl with
      | nx => exact fun G' H' s e' i' => p G' H' V.non s e' i' rfl
      | rt d => exact fun G' H' s e' i' v hv => p G' H' v s e' i' hv
      | bk => exact p.elim
      | ct => exact p.elim
end
/-! ### dicts of the module, text keys -/
def KTab (K : PySem.W.Frag) (w : World) (mg : Str → Option Value) (x : Str) (tbl : List (Str × PyData)) : Prop :=
  ∃ a es n, mg x = some (.ref a) ∧ KDict K w a es n ∧ ∀ p ∈ tbl, ∃ u v, PySem.W.nsIn K a p.1 = some (some u) ∧ RelV v u ∧ Rv K (fun _ => none) p.2 v
def ktB (K : PySem.W.Frag) (x : Str) (tbl : List (Str × PyData)) : Bool := tbl.all fun p => match PySem.W.nsIn K (He.ga K x) p.1 with
  | some (some u) => rvB K p.2 u
  | _ => false
theorem kt_ok {K : PySem.W.Frag} {w : World} {h : Heap} {mg : Str → Option Value} (X : K.In h) (G : h.Ns mainGlobals mg) {x : Str} {tbl : List (Str × PyData)} (c0 : (He.Fa.glo x).ok K = true) (hd : ∃ es n, KDict K w (He.ga K x) es n) (c : ktB K x tbl = true) : KTab K w mg x tbl := by
  obtain ⟨es, n, hd⟩ := hd
  refine ⟨_, es, n, He.glo_ok X G c0, hd, fun p hp => ?_⟩
  have := List.all_eq_true.mp c p hp
  split at this
  · rename_i u hu
    obtain ⟨v, a, b⟩ := rvB_ok (G := fun _ => none) p.2 u this
    exact ⟨u, v, hu, a, b⟩
  · cases this
def fKix (tbl : List (Str × PyData)) : PyData → Option PyData
  | .str x => tbl.lookup x
  | _ => none
def dKix (tbl : List (Str × PyData)) (db : M PyData) : M PyData := db.bind fun d => .opt (fKix tbl d)
section
variable {X : Cx} {TG : TGx} {W : WX} {x : Str} {b : Expr} {db : M PyData} {tbl : List (Str × PyData)} {pos px : Pos}
theorem de_kix (hg : Gl X x) (h : KTab X.K X.w X.mg x tbl) (hb : DE X TG W b db) (hs : PlainIx b) (hd : (x == ("__debug__" : Str)) = false := by decide) : DE X TG W (.Subscript (.Name x px) b pos) (dKix tbl db) := by
  obtain ⟨a, es, n, h1, h2, h3⟩ := h
  refine PE_imp (pe_ix ix_kdict (pe_glob (v := .ref a) hg h1 rfl hd) hb hs) fun s H Q q => ?_
  obtain ⟨B, F, G0, G, r, i, p⟩ := rd_bind (R1 := RE X.K) q
  refine ⟨B, F, G0, G, r, i, post_imp (fun y H1 q => ?_) _ p⟩
  obtain ⟨B, F, G0, G1, r1, d, i1, v1, p1⟩ := q
  cases hz : fKix tbl d with
  | none => rw [hz] at p1; exact p1.elim
  | some z =>
    rw [hz] at p1
    unfold fKix at hz
    split at hz
    · rename_i k
      obtain ⟨u, v, k1, k2, k3⟩ := h3 _ (PySem.mem_of_lookup hz)
      exact ⟨a, k, v, rfl, v1, ⟨es, n, u, h2.at_, h2.lit, k1, k2⟩, p1 G1 H1 v (.refl _) i1 (Rv.mono (fun _ _ z => by cases z) _ _ k3)⟩
    · cases hz
end
end TW

end
section
namespace TW
open PySem PySem.Spec PyProof.Rows L2

/-! ### several values or new lists at once -/
inductive Hld (TG : TGx) (K : PySem.W.Frag) (G0 G : Hp) : Hp → List Rz → List V → Hp → Prop where
  | nil {F : Hp} : Hld TG K G0 G F [] [] F
  | v {F Fh : Hp} {d : PyData} {x : V} {as : List Rz} {vs : List V} (h : Rv K G d x) (t : Hld TG K G0 G F as vs Fh) : Hld TG K G0 G F (.v d :: as) (x :: vs) Fh
  | l {F Fh : Hp} {ds : List PyData} {a : Addr} {xs : List V} {as : List Rz} {vs : List V} (f : F a = none) (g : G0 a = none) (h : RvA K G ds xs) (t : Hld TG K G0 G (upd F a (.lst xs)) as vs Fh) : Hld TG K G0 G F (.l ds :: as) (.ref a :: vs) Fh
  | x {F Fh : Hp} {y : Xv} {a : Addr} {o : HO} {as : List Rz} {vs : List V} (f : F a = none) (g : G0 a = none) (h : OwR TG K G a (.x y) o) (t : Hld TG K G0 G (upd F a o) as vs Fh) : Hld TG K G0 G F (.x y :: as) (.ref a :: vs) Fh
theorem Hld.mono {TG : TGx} {K : PySem.W.Frag} {G0 G G' F Fh : Hp} {as : List Rz} {vs : List V} (e : Same G G') (h : Hld TG K G0 G F as vs Fh) : Hld TG K G0 G' F as vs Fh := by
  induction h with
  | nil => exact .nil
  | v h _ ih => exact .v (Rv.mono e _ _ h) ih
  | l f g h _ ih => exact .l f g (RvA.mono e _ _ h) ih
  | x f g h _ ih => exact .x f g (h.mono e) ih
section
variable (K : PySem.W.Frag) (TG : TGx) (W : WX)
def postAX (B : List (Nat × Addr)) (F G0 G : Hp) (s : L2.St) (Q : List V → Hp → Prop) : Res (List Rz) → Prop
  | .ok as r => ∀ G' H' Fh vs, Same G G' → SR K TG B Fh G0 G' H' r s → Hld TG K G0 G' F as vs Fh → Q vs H'
  | .ex e r => ∀ G' H' c dx, Same G G' → SR K TG B F G0 G' H' r s → ExR K G' e c dx → W c dx s H'
  | .st => False
def rdAX (d : M (List Rz)) : TA := fun s H Q => ∃ B F G0 G r, SR K TG B F G0 G H r s ∧ postAX K TG W B F G0 G s Q (d r)
end
def DAX (X : Cx) (TG : TGx) (W : WX) (es : List Expr) (d : M (List Rz)) : Prop := PA X es (rdAX X.K TG W d)
def axNil : M (List Rz) := .ret []
/-- the list's evaluation may raise at its first place alone -/
def axCons (d : M Rz) (r : M (List Rz)) : M (List Rz) := d.bind fun x z => match r z with
  | .ok xs z' => .ok (x :: xs) z'
  | _ => .st
section
variable {K : PySem.W.Frag} {TG : TGx} {B : List (Nat × Addr)} {F G0 G H : Hp} {r : List Sl} {s : L2.St}
theorem SR.heldF (i : SR K TG B F G0 G H r s) {a : Addr} {o : HO} (hH : H a = some o) (ht : ∀ ps, o ≠ .tbl ps) (hG : G a = none) (hs : ∀ (j : Nat) (es : Ow), r[j]?.bind Sl.own = some es → s[j]? ≠ some (some (V.ref a))) : SR K TG B (upd F a o) G0 G H r s := by
  refine ⟨i.len, i.gh, fun b u q => ?_, i.g0, fun b u q => ?_, i.gt, fun b ps q => ?_, i.tb, i.vals, fun j ds q => ?_, i.sep, i.ios, i.evs⟩
  · by_cases z : b = a
    · subst z; rw [upd_same] at q; cases q; exact hH
    · rw [upd_ne z] at q; exact i.fh _ _ q
  · have z : b ≠ a := fun e => by subst e; rw [hG] at q; cases q
    rw [upd_ne z]
    exact i.fg b u q
  · by_cases z : b = a
    · subst z; rw [upd_same] at q; exact ht ps (Option.some.inj q)
    · rw [upd_ne z] at q; exact i.ft _ _ q
  · obtain ⟨a', ys, h1, h2, h3, h4, h5⟩ := i.owns j ds q
    have z : a' ≠ a := fun e => hs j ds q (by rw [← e]; exact h1)
    exact ⟨a', ys, h1, h2, h3, h4, by rw [upd_ne z]; exact h5⟩
end
section
variable {X : Cx} {TG : TGx} {W : WX} {e : Expr} {es : List Expr} {d : M Rz} {r : M (List Rz)}
theorem dax_nil : DAX X TG W [] axNil := PA_imp pa_nil fun s H Q h => by
  obtain ⟨B, F, G0, G, r, i, p⟩ := h
  exact p G H F [] (.refl _) i .nil
theorem dax_cons (he : DX X TG W e d) (hr : DAX X TG W es r) (hs : starEach (e :: es) X.env = (false, eval e X.env) :: starEach es X.env := by rfl) : DAX X TG W (e :: es) (axCons d r) := PA_imp (pa_cons he hr hs) fun s H Q h => by
  obtain ⟨B, F, G0, G, z, i, p⟩ := h
  refine ⟨B, F, G0, G, z, i, ?_⟩
  unfold axCons M.bind at p
  cases hd : d z with
  | st => rw [hd] at p; exact p
  | ex x r1 => rw [hd] at p; exact p
  | ok x r1 =>
    rw [hd] at p
    have p : postAX X.K TG W B F G0 G s Q (match r r1 with
      | .ok xs z' => .ok (x :: xs) z'
      | _ => .st) := p
    cases hr : r r1 with
    | st => rw [hr] at p; exact p.elim
    | ex _ _ => rw [hr] at p; exact p.elim
    | ok xs r2 =>
      rw [hr] at p
      cases x with
      | v dv =>
        intro G1 H1 v e1 i1 hv
        refine ⟨B, F, G0, G1, r1, i1, ?_⟩
        rw [hr]
        intro G2 H2 Fh vs e2 i2 hh
        exact p G2 H2 Fh (v :: vs) (e1.trans e2) i2 (.v (Rv.mono e2 _ _ hv) hh)
      | l ds =>
        intro G1 H1 a e1 i1 fr
        obtain ⟨ys, h1, h2⟩ := fr.ex
        have i1' := i1.heldF h1 (fun ps z => by cases z) fr.g fr.sl
        refine ⟨B, _, G0, G1, r1, i1', ?_⟩
        rw [hr]
        intro G2 H2 Fh vs e2 i2 hh
        exact p G2 H2 Fh (.ref a :: vs) (e1.trans e2) i2 (.l fr.f (none_sub i1.g0 fr.g) (RvA.mono e2 _ _ h2) hh)
      | x y =>
        intro G1 H1 a e1 i1 fr
        obtain ⟨o, h1, h2⟩ := fr.ex
        have i1' := i1.heldF h1 h2.notTbl fr.g fr.sl
        refine ⟨B, _, G0, G1, r1, i1', ?_⟩
        rw [hr]
        intro G2 H2 Fh vs e2 i2 hh
        exact p G2 H2 Fh (.ref a :: vs) (e1.trans e2) i2 (.x fr.f (none_sub i1.g0 fr.g) (h2.mono e2) hh)
end
def slOf : Rz → Sl
  | .v d => .v d
  | .l ds => .l ds
  | .x y => .x y
def parSl : List Nat → List Rz → List Sl → Option (List Sl)
  | [], [], r => some r
  | i :: is, x :: as, r => match parSl is as r with
    | some r1 => match r1[i]? with
      | some y => if y.isIo then none else some (r1.set i (slOf x))
      | none => none
    | none => none
  | _, _, _ => none
def setVs : List Nat → List V → L2.St → L2.St
  | i :: is, v :: vs, s => (setVs is vs s).set i (some v)
  | _, _, s => s
def sPar (is : List Nat) (ra : M (List Rz)) : M Fl := ra.bind fun as r => match parSl is as r with
  | some r' => .ok .nx r'
  | none => .st
section
variable {K : PySem.W.Frag} {TG : TGx} {B : List (Nat × Addr)} {G0 G H : Hp} {r : List Sl} {s : L2.St}
theorem parSl_cons {j : Nat} {is : List Nat} {x : Rz} {as : List Rz} {r r' : List Sl} (e : TW.parSl (j :: is) (x :: as) r = some r') : ∃ r1, TW.parSl is as r = some r1 ∧ j < r1.length ∧ (∀ y, r1[j]? = some y → y.isIo = false) ∧ r' = r1.set j (slOf x) := by
  have e : (match TW.parSl is as r with
    | some r1 => match r1[j]? with
      | some y => if y.isIo then none else some (r1.set j (slOf x))
      | none => none
    | none => none) = some r' := e
  cases h1 : TW.parSl is as r with
  | none => rw [h1] at e; cases e
  | some r1 =>
    rw [h1] at e
    have e : (match r1[j]? with
      | some y => if y.isIo then none else some (r1.set j (slOf x))
      | none => none) = some r' := e
    cases hj : r1[j]? with
    | none => rw [hj] at e; cases e
    | some y =>
      rw [hj] at e
      have e : (if y.isIo then none else some (r1.set j (slOf x))) = some r' := e
      split at e
      · cases e
      · rename_i hn
        cases e
        exact ⟨r1, rfl, (List.getElem?_eq_some_iff.mp hj).1, fun z q => by rw [hj] at q; cases q; simpa using hn, rfl⟩
theorem SR.parSet {F Fh : Hp} {as : List Rz} {vs : List V} (h : Hld TG K G0 G F as vs Fh) : ∀ {is : List Nat} {r' : List Sl}, SR K TG B Fh G0 G H r s → TW.parSl is as r = some r' → SR K TG B F G0 G H r' (setVs is vs s) := by
  induction h with
  | nil =>
    intro is r' i e
    cases is with
    | nil => cases e; exact i
    | cons _ _ => cases e
  | @v F Fh d x as vs hx _ ih =>
    intro is r' i e
    cases is with
    | nil => cases e
    | cons j is =>
      obtain ⟨r1, h1, hl, hio, rfl⟩ := parSl_cons e
      exact (ih i h1).setv hl hio hx
  | @l F Fh ds a xs as vs f g hx _ ih =>
    intro is r' i e
    cases is with
    | nil => cases e
    | cons j is =>
      obtain ⟨r1, h1, hl, hio, rfl⟩ := parSl_cons e
      have i1 := ih i h1
      exact (i1.loose f).setl hl hio ⟨⟨xs, i1.fh _ _ upd_same, hx⟩, i1.gnone g, f, fun k es q => by
        obtain ⟨b, zs, q1, q2, q3, q4, q5⟩ := i1.owns k es q
        rw [q1]
        intro z
        cases z
        rw [upd_same] at q5
        cases q5⟩
  | @x F Fh y a o as vs f g hx _ ih =>
    intro is r' i e
    cases is with
    | nil => cases e
    | cons j is =>
      obtain ⟨r1, h1, hl, hio, rfl⟩ := parSl_cons e
      have i1 := ih i h1
      exact (i1.looseA f).setx hl hio ⟨⟨o, i1.fh _ _ upd_same, hx⟩, i1.gnone g, f, fun k es q => by
        obtain ⟨b, zs, q1, q2, q3, q4, q5⟩ := i1.owns k es q
        rw [q1]
        intro z
        cases z
        rw [upd_same] at q5
        cases q5⟩
end
section
variable {X : Cx} {TG : TGx} {W : WX} {ra : M (List Rz)}
theorem rdS_par {is : List Nat} {D : Ends} {s : L2.St} {H : Hp} (h : rdS X.K TG W (sPar is ra) D s H) : rdAX X.K TG W ra s H fun vs H1 => vs.length = is.length ∧ ∀ H2, (∀ (G : Hp), Same G H1 → Grow G H1 G H2) → D.nx (setVs is vs s) H2 := by
  obtain ⟨B, F, G0, G, z, i, p⟩ := h
  refine ⟨B, F, G0, G, z, i, ?_⟩
  unfold sPar M.bind at p
  cases hr : ra z with
  | st => rw [hr] at p; exact p
  | ex x r1 => rw [hr] at p; exact fun G' H' c dx => p G' H' s c dx
  | ok as r1 =>
    rw [hr] at p
    intro G1 H1 Fh vs e1 i1 hh
    have p : postS X.K TG W B F G0 G D (match parSl is as r1 with
      | some r' => .ok .nx r'
      | none => .st) := p
    cases hp : parSl is as r1 with
    | none => rw [hp] at p; exact p.elim
    | some r2 =>
      rw [hp] at p
      have len : ∀ {F Fh : Hp} {as : List Rz} {vs : List V}, Hld TG X.K G0 G1 F as vs Fh → ∀ {is : List Nat} {r2 : List Sl}, parSl is as r1 = some r2 → vs.length = is.length := fun h => by
        induction h with
        | nil =>
          intro is r2 e
          cases is with
          | nil => rfl
          | cons _ _ => cases e
        | v _ _ ih =>
          intro is r2 e
          cases is with
          | nil => cases e
          | cons j is =>
            unfold parSl at e
            split at e
            · rename_i r3 h3; simp [ih h3]
            · cases e
        | l _ _ _ _ ih =>
          intro is r2 e
          cases is with
          | nil => cases e
          | cons j is =>
            unfold parSl at e
            split at e
            · rename_i r3 h3; simp [ih h3]
            · cases e
        | x _ _ _ _ ih =>
          intro is r2 e
          cases is with
          | nil => cases e
          | cons j is =>
            unfold parSl at e
            split at e
            · rename_i r3 h3; simp [ih h3]
            · cases e
      exact ⟨len hh hp, fun H2 g => p G1 H2 _ e1 ((i1.parSet hh hp).grow (g G1 i1.gh))⟩
variable {a b c : Expr} {i j l : Nat} {x y z : Str} {px py pz pt pos : Pos} {kt k2 : Nat} {pt2 : Pos}
theorem ds_par2 (hc : X.calm = true) (hN : X.N.Nodup) (hi : X.N[i]? = some x) (hj : X.N[j]? = some y) (hij : i ≠ j)
    (hx : X.env.scope.names.lookup x = some .local) (hy : X.env.scope.names.lookup y = some .local) (ha : DAX X TG W [a, b] ra)
    (hw : swappedStores [.Tuple [.Name x px, .Name y py] kt pt] (.Tuple [a, b] k2 pt2) X.env = pure (some [x, y]))
    (hs : swapsWithSole [.Tuple [.Name x px, .Name y py] kt pt] (.Tuple [a, b] k2 pt2) pos.line X.env = pure false := by rfl) :
    DS X TG W (.Assign [.Tuple [.Name x px, .Name y py] kt pt] (.Tuple [a, b] k2 pt2) pos) (sPar [i, j] ra) := PS_imp (ps_par hc hN hi hj hij hx hy ha hw hs) fun D s H q => by
  obtain ⟨B, F, G0, G, z, ir, p⟩ := rdS_par q
  refine ⟨B, F, G0, G, z, ir, ?_⟩
  cases hr : ra z with
  | st => rw [hr] at p; exact p
  | ex x r1 => rw [hr] at p; exact p
  | ok as r1 =>
    rw [hr] at p
    intro G1 H1 Fh vs e1 i1 hh
    obtain ⟨hl, q⟩ := p G1 H1 Fh vs e1 i1 hh
    match vs, hl with
    | [u, v], _ =>
      refine ⟨u, v, rfl, ?_⟩
      have := q H1 fun G e => .refl e
      have e : setVs [i, j] [u, v] s = (s.set i (some u)).set j (some v) := by
        show (s.set j (some v)).set i (some u) = _
        exact List.set_comm _ _ (Ne.symm hij)
      rw [e] at this
      exact this
theorem ds_par3 (hc : X.calm = true) (hN : X.N.Nodup) (hi : X.N[i]? = some x) (hj : X.N[j]? = some y) (hl : X.N[l]? = some z) (hij : i ≠ j) (hil : i ≠ l) (hjl : j ≠ l)
    (hx : X.env.scope.names.lookup x = some .local) (hy : X.env.scope.names.lookup y = some .local) (hz : X.env.scope.names.lookup z = some .local) (ha : DAX X TG W [a, b, c] ra)
    (hw : swappedStores [.Tuple [.Name x px, .Name y py, .Name z pz] kt pt] (.Tuple [a, b, c] k2 pt2) X.env = pure (some [x, y, z]))
    (hs : swapsWithSole [.Tuple [.Name x px, .Name y py, .Name z pz] kt pt] (.Tuple [a, b, c] k2 pt2) pos.line X.env = pure false := by rfl) :
    DS X TG W (.Assign [.Tuple [.Name x px, .Name y py, .Name z pz] kt pt] (.Tuple [a, b, c] k2 pt2) pos) (sPar [i, j, l] ra) := PS_imp (ps_par3 hc hN hi hj hl hij hil hjl hx hy hz ha hw hs) fun D s H q => by
  obtain ⟨B, F, G0, G, zz, ir, p⟩ := rdS_par q
  refine ⟨B, F, G0, G, zz, ir, ?_⟩
  cases hr : ra zz with
  | st => rw [hr] at p; exact p
  | ex x r1 => rw [hr] at p; exact p
  | ok as r1 =>
    rw [hr] at p
    intro G1 H1 Fh vs e1 i1 hh
    obtain ⟨hl, q⟩ := p G1 H1 Fh vs e1 i1 hh
    match vs, hl with
    | [u, v, w], _ =>
      refine ⟨u, v, w, rfl, ?_⟩
      have := q H1 fun G e => .refl e
      have e : setVs [i, j, l] [u, v, w] s = ((s.set i (some u)).set j (some v)).set l (some w) := by
        show ((s.set l (some w)).set j (some v)).set i (some u) = _
        rw [List.set_comm (some v) (some u) (Ne.symm hij), List.set_comm (some w) (some u) (Ne.symm hil), List.set_comm (some w) (some v) (Ne.symm hjl)]
      rw [e] at this
      exact this
def gNames : List Nat → L2.TGs
  | [] => gNil
  | i :: is => gCons (gName i) (gNames is)
theorem setVs_out {i : Nat} {v : V} : ∀ {is : List Nat} {vs : List V} {s : L2.St}, i ∉ is → setVs is vs (s.set i (some v)) = (setVs is vs s).set i (some v)
  | [], [], _, _ => rfl
  | [], _ :: _, _, _ => rfl
  | _ :: _, [], _, _ => rfl
  | j :: is, w :: vs, s, h => by
    have h1 : i ≠ j := fun e => h (by rw [e]; exact List.mem_cons_self)
    have h2 : i ∉ is := fun m => h (List.mem_cons_of_mem _ m)
    show (setVs is vs (s.set i (some v))).set j (some w) = ((setVs is vs s).set j (some w)).set i (some v)
    rw [setVs_out h2, List.set_comm _ _ h1]
theorem gNames_of : ∀ {is : List Nat} {vs : List V} {s : L2.St} {H : Hp} {Q : L2.St → Hp → Prop}, nodupB is = true → vs.length = is.length → Q (setVs is vs s) H → gNames is vs s H Q
  | [], [], _, _, _, _, _, q => ⟨rfl, q⟩
  | [], _ :: _, _, _, _, _, h, _ => by cases h
  | _ :: _, [], _, _, _, _, h, _ => by cases h
  | i :: is, v :: vs, s, H, Q, nd, h, q => by
    have nd : (!is.contains i && nodupB is) = true := nd
    rw [Bool.and_eq_true] at nd
    have hi : i ∉ is := by simpa using nd.1
    refine ⟨v, vs, rfl, gNames_of nd.2 (by simpa using h) ?_⟩
    rw [setVs_out hi]
    exact q
theorem ds_parG {tgs es : List Expr} {is : List Nat} (hc : X.calm = true) (hg : PGs X tgs (gNames is)) (nd : nodupB is = true) (ha : DAX X TG W es ra) (hz : is.length ≤ 16777216 := by decide)
    (hn : (assignEach tgs X.env).length = is.length := by rfl) (hst : (assignEach tgs X.env).findIdx? (·.1) = none := by rfl)
    (hs : swapsWithSole [.Tuple tgs kt pt] (.Tuple es k2 pt2) pos.line X.env = pure false := by rfl) (hw : swappedStores [.Tuple tgs kt pt] (.Tuple es k2 pt2) X.env = pure none := by rfl)
    (h1 : (assignEach [.Tuple tgs kt pt] X.env).map (·.2) = [assign (.Tuple tgs kt pt) X.env] := by rfl) :
    DS X TG W (.Assign [.Tuple tgs kt pt] (.Tuple es k2 pt2) pos) (sPar is ra) := PS_imp (L2.ps_asg (pe_tup ha) (pg_tup hc hg hn hst) hs hw h1) fun D s H q => by
  obtain ⟨B, F, G0, G, zz, ir, p⟩ := rdS_par q
  refine ⟨B, F, G0, G, zz, ir, ?_⟩
  cases hr : ra zz with
  | st => rw [hr] at p; exact p
  | ex x r1 => rw [hr] at p; exact p
  | ok as r1 =>
    rw [hr] at p
    intro G1 H1 Fh vs e1 i1 hh
    obtain ⟨hl, q⟩ := p G1 H1 Fh vs e1 i1 hh
    refine ⟨by rw [hl, sizeLine_eq]; exact hz, fun p hp => ⟨p, vs, rfl, .inl (.inl upd_same), hl, gNames_of nd hl (q _ fun G e => grow_out e hp)⟩⟩
end
end TW

end
section
/-! sorted of data: ints, texts, tuples that can be told apart place by place. -/
namespace TW
open PySem PySem.Spec PyProof.Rows L2

/-! ### the order -/
def insD (d : PyData) : List PyData → List PyData
  | [] => [d]
  | x :: l => if PySem.W.dataLt x d = true then x :: insD d l else d :: x :: l
def isortD : List PyData → List PyData
  | [] => []
  | d :: l => insD d (isortD l)
theorem data_swo : SrtO.Swo PySem.W.dataLt := by
  refine ⟨fun x y h => ?_, fun x y z h1 h2 => ?_⟩
  · cases q : PySem.W.dataLt y x with
    | false => rfl
    | true =>
      have e := PyProof.Rows.lex_trans (O := PyProof.Rows.itemOrd) _ _ _ h q
      rw [PyProof.Rows.lex_irrefl] at e
      cases e
  · cases q : PySem.W.dataLt z x with
    | false => rfl
    | true =>
      rcases PyProof.Rows.lex_negTrans (O := PyProof.Rows.itemOrd) _ (PySem.W.keyToks y) _ q with e | e
      · have e : PySem.W.dataLt z y = true := e
        rw [h2] at e; cases e
      · have e : PySem.W.dataLt y x = true := e
        rw [h1] at e; cases e
theorem insD_mem {d z : PyData} : ∀ {l : List PyData}, z ∈ insD d l → z = d ∨ z ∈ l
  | [], h => by simpa [insD] using h
  | x :: l, h => by
    unfold insD at h
    split at h
    · rcases List.mem_cons.mp h with e | h
      · exact .inr (by rw [e]; exact List.mem_cons_self)
      · rcases insD_mem h with e | h
        · exact .inl e
        · exact .inr (List.mem_cons_of_mem _ h)
    · rcases List.mem_cons.mp h with e | h
      · exact .inl e
      · exact .inr h
theorem insD_perm (d : PyData) : ∀ l : List PyData, (insD d l).Perm (d :: l)
  | [] => List.Perm.refl _
  | x :: l => by
    unfold insD
    split
    · exact ((insD_perm d l).cons x).trans (List.Perm.swap d x l)
    · exact List.Perm.refl _
theorem insD_srtd {d : PyData} : ∀ {l : List PyData}, SrtO.Srtd PySem.W.dataLt l → SrtO.Srtd PySem.W.dataLt (insD d l)
  | [], _ => by unfold insD; exact SrtO.srtd_one _
  | x :: l, h => by
    unfold insD
    obtain ⟨h1, h2⟩ := List.pairwise_cons.mp h
    split
    · rename_i q
      refine List.pairwise_cons.mpr ⟨fun z hz => ?_, insD_srtd h2⟩
      rcases insD_mem hz with e | hz
      · rw [e]; exact data_swo.asym _ _ q
      · exact h1 z hz
    · rename_i q
      have q : PySem.W.dataLt x d = false := by simpa using q
      refine List.pairwise_cons.mpr ⟨fun z hz => ?_, h⟩
      rcases List.mem_cons.mp hz with e | hz
      · rw [e]; exact q
      · exact data_swo.tr _ _ _ q (h1 z hz)
theorem insD_cls (d y : PyData) : ∀ l : List PyData, (insD d l).filter (SrtO.eqv PySem.W.dataLt y) = (d :: l).filter (SrtO.eqv PySem.W.dataLt y)
  | [] => rfl
  | x :: l => by
    unfold insD
    split
    · rename_i q
      have ih := insD_cls d y l
      cases e1 : SrtO.eqv PySem.W.dataLt y x with
      | false =>
        rw [List.filter_cons_of_neg (by rw [e1]; simp), ih]
        cases e2 : SrtO.eqv PySem.W.dataLt y d with
        | false => rw [List.filter_cons_of_neg (by rw [e2]; simp), List.filter_cons_of_neg (by rw [e2]; simp), List.filter_cons_of_neg (by rw [e1]; simp)]
        | true => rw [List.filter_cons_of_pos (by rw [e2]), List.filter_cons_of_pos (by rw [e2]), List.filter_cons_of_neg (by rw [e1]; simp)]
      | true =>
        have e2 : SrtO.eqv PySem.W.dataLt y d = false := by
          cases e2 : SrtO.eqv PySem.W.dataLt y d with
          | false => rfl
          | true =>
            obtain ⟨a1, a2⟩ := SrtO.eqv_iff.mp e1
            obtain ⟨b1, b2⟩ := SrtO.eqv_iff.mp e2
            -- x ~ y ~ d, but x < d
            have c := data_swo.tr d y x b1 a2
            rw [c] at q
            cases q
        rw [List.filter_cons_of_pos (by rw [e1]), ih, List.filter_cons_of_neg (by rw [e2]; simp), List.filter_cons_of_neg (by rw [e2]; simp), List.filter_cons_of_pos (by rw [e1])]
    · rfl
theorem isortD_srtd : ∀ l : List PyData, SrtO.Srtd PySem.W.dataLt (isortD l)
  | [] => List.Pairwise.nil
  | d :: l => insD_srtd (isortD_srtd l)
theorem isortD_stb : ∀ l : List PyData, SrtO.Stb PySem.W.dataLt (isortD l) l
  | [] => SrtO.Stb.refl _
  | d :: l => by
    have ih := isortD_stb l
    refine ⟨(insD_perm d _).trans (ih.perm.cons d), fun x => ?_⟩
    show (insD d (isortD l)).filter _ = _
    rw [insD_cls]
    have e := ih.cls x
    cases q : SrtO.eqv PySem.W.dataLt x d with
    | true => rw [List.filter_cons_of_pos (by rw [q]), List.filter_cons_of_pos (by rw [q]), e]
    | false => rw [List.filter_cons_of_neg (by rw [q]; simp), List.filter_cons_of_neg (by rw [q]; simp), e]

/-! ### what can be sorted -/
/-- alike up to the first place where they differ -/
def cmpAll : List PyData → List PyData → Bool
  | x :: xs, y :: ys => PySem.W.alike x y && (!PyData.eqv x y || cmpAll xs ys)
  | _, _ => true
def cmpOk : PyData → PyData → Bool
  | .tuple (x :: xs), .tuple (y :: ys) => cmpAll (x :: xs) (y :: ys)
  | .int _, .int _ => true
  | .str _, .str _ => true
  | _, _ => false
def srtOk (ds : List PyData) : Bool := decide (ds.length ≤ 1) || ds.all fun d => PySem.W.alike d d && d.canLay0 && decide (d.depth ≤ 60) && ds.all (cmpOk d)
mutual
theorem reads_uniq {h : Heap} : ∀ (d d' : PyData) (v : Value) (as as' : List Addr), PySem.W.alike d d = true → Reads h v d as → Reads h v d' as' → d = d'
  | .none, _, _, _, _, _, r, r' => by cases r; cases r'; rfl
  | .bool _, _, _, _, _, _, r, r' => by cases r; cases r'; rfl
  | .int _, _, _, _, _, _, r, r' => by cases r; cases r'; rfl
  | .str _, _, _, _, _, _, r, r' => by cases r; cases r'; rfl
  | .list xs, d', _, _, _, ha, r, r' => by
    cases r with
    | list h1 h2 h3 h4 =>
      cases r' with
      | list k1 k2 k3 k4 =>
        rw [h1] at k1; cases k1
        rw [h3] at k3; cases k3
        rw [readsAll_uniq xs _ _ _ _ (by simpa [PySem.W.alike] using ha) h4 k4]
      | tuple k1 k2 k3 k4 => rw [h1] at k1; cases k1; rw [h2] at k2; exact absurd k2 (by decide)
      | dict k1 k2 k3 k4 k5 => rw [h1] at k1; cases k1; rw [h2] at k2; exact absurd k2 (by decide)
  | .tuple xs, d', _, _, _, ha, r, r' => by
    cases r with
    | tuple h1 h2 h3 h4 =>
      cases r' with
      | tuple k1 k2 k3 k4 =>
        rw [h1] at k1; cases k1
        rw [h3] at k3; cases k3
        rw [readsAll_uniq xs _ _ _ _ (by simpa [PySem.W.alike] using ha) h4 k4]
      | list k1 k2 k3 k4 => rw [h1] at k1; cases k1; rw [h2] at k2; exact absurd k2 (by decide)
      | dict k1 k2 k3 k4 k5 => rw [h1] at k1; cases k1; rw [h2] at k2; exact absurd k2 (by decide)
  | .dict _, d', _, _, _, ha, _, _ => absurd ha (by simp [PySem.W.alike])
theorem readsAll_uniq {h : Heap} : ∀ (xs ys : List PyData) (vs : List Value) (as as' : List Addr), PySem.W.alikeAll xs xs = true → ReadsAll h vs xs as → ReadsAll h vs ys as' → xs = ys
  | [], _, _, _, _, _, r, r' => by cases r; cases r'; rfl
  | x :: xs, _, _, _, _, ha, r, r' => by
    cases r with
    | cons h1 h2 =>
      cases r' with
      | cons k1 k2 => rw [reads_uniq x _ _ _ _ (PySem.W.alike_all_cons ha).1 h1 k1, readsAll_uniq xs _ _ _ _ (PySem.W.alike_all_cons ha).2 h2 k2]
end

/-! ### the comparison in the model -/
open SeqAt in
theorem katLex_cmp {prog : Program} {w : World} {A : Around} {s : Shared} {b fin : Bool} {Q : Bool → Shared → Prop} : ∀ (xs ys : List PyData) (i : Nat) (vs ws : List Value) (as bs : List Addr), ReadsAll s.heap vs xs as → ReadsAll s.heap ws ys bs → cmpAll xs ys = true →
    A.units + min (PyData.depthAll xs) (PyData.depthAll ys) < cLine → (b = true → i = 0 → ∀ x r t, xs = x :: r → x ≠ .tuple t) → fin = decide (xs.length < ys.length) → Q (PyProof.Rows.lexLt PyProof.Rows.itemOrd (PySem.W.keyToksAll xs) (PySem.W.keyToksAll ys)) s → PySem.W.KatLex prog w A b fin Q (vs.zip ws) i s
  | [], ys, i, vs, ws, as, bs, ra, rb, _, hu, hb, hf, hq => PySem.W.katLex_alike [] ys i vs ws as bs ra rb (by simp [PySem.W.alikeAll]) hu hb hf hq
  | x :: xs, [], i, vs, ws, as, bs, ra, rb, _, hu, hb, hf, hq => PySem.W.katLex_alike (x :: xs) [] i vs ws as bs ra rb (by simp [PySem.W.alikeAll]) hu hb hf hq
  | x :: xs, y :: ys, i, _, _, _, _, ra, rb, h, hu, hb, hf, hq => by
    have h : (PySem.W.alike x y && (!PyData.eqv x y || cmpAll xs ys)) = true := h
    rw [Bool.and_eq_true] at h
    obtain ⟨h1, h2⟩ := h
    have hf' : fin = decide (xs.length < ys.length) := by
      rw [hf]
      simp only [List.length_cons, Nat.add_lt_add_iff_right]
    cases ra with
    | cons r rs =>
      cases rb with
      | cons r' rs' =>
        rw [List.zip_cons_cons]
        refine PySem.W.kat_cons (PySem.W.eqAt_alike x y A s _ _ _ _ r r' h1 (room_head hu) prog w _ _ ?_)
        cases hx : PyData.eqv x y with
        | true =>
          rw [hx] at h2
          rw [PySem.W.dataLt_all_yes h1 hx] at hq
          exact PySem.W.kat_yes (katLex_cmp xs ys (i + 1) _ _ _ _ rs rs' (by simpa using h2) (room_tail hu) (fun _ hi => absurd hi (Nat.succ_ne_zero i)) hf' hq)
        | false =>
          rw [PySem.W.dataLt_all_no h1 hx] at hq
          refine PySem.W.kat_no (PySem.W.oneLt_alike (fun hbi t => ?_) r r' h1 (PySem.W.ne_none_of h1 hx) (room_head hu) hq)
          rw [Bool.and_eq_true] at hbi
          exact hb hbi.1 (by simpa using hbi.2) x xs t rfl
/-- what v reads as, of ds -/
noncomputable def datOf (h : Heap) (ds : List PyData) (v : Value) : PyData := open Classical in if q : ∃ d, d ∈ ds ∧ ∃ as, Reads h v d as then q.choose else .none
theorem datOf_eq {h : Heap} {ds : List PyData} {v : Value} {d : PyData} {as : List Addr} (al : ∀ d ∈ ds, PySem.W.alike d d = true) (hd : d ∈ ds) (r : Reads h v d as) : datOf h ds v = d := by
  have q : ∃ d, d ∈ ds ∧ ∃ as, Reads h v d as := ⟨d, hd, as, r⟩
  have e : datOf h ds v = q.choose := by
    show (open Classical in if q : ∃ d, d ∈ ds ∧ ∃ as, Reads h v d as then q.choose else .none) = _
    rw [dif_pos q]
  rw [e]
  obtain ⟨h1, as', h2⟩ := q.choose_spec
  exact reads_uniq _ _ _ _ _ (al _ h1) h2 r
theorem srtOk_all {ds : List PyData} (h : srtOk ds = true) (h2 : 2 ≤ ds.length) : ∀ d ∈ ds, PySem.W.alike d d = true ∧ d.canLay0 = true ∧ d.depth ≤ 60 ∧ ∀ d' ∈ ds, cmpOk d d' = true := by
  unfold srtOk at h
  rw [Bool.or_eq_true] at h
  rcases h with h | h
  · exact absurd (of_decide_eq_true h) (by omega)
  · intro d hd
    have q := List.all_eq_true.mp h d hd
    simp only [Bool.and_eq_true, decide_eq_true_eq] at q
    exact ⟨q.1.1.1, q.1.1.2, q.1.2, fun d' hd' => List.all_eq_true.mp q.2 d' hd'⟩
theorem cmpOk_tup {d : PyData} {x : PyData} {r : List PyData} (h : cmpOk d (.tuple (x :: r)) = true) : ∃ y q, d = .tuple (y :: q) ∧ PySem.W.alike y x = true := by
  cases d with
  | tuple ys =>
    cases ys with
    | nil => simp [cmpOk] at h
    | cons y ys =>
      have h : (PySem.W.alike y x && (!PyData.eqv y x || cmpAll ys r)) = true := h
      rw [Bool.and_eq_true] at h
      exact ⟨y, ys, rfl, h.1⟩
  | _ => simp [cmpOk] at h
theorem cmp_data {prog : Program} {w : World} {A : Around} {s : Shared} {d d' : PyData} {v v' : Value} {as as' : List Addr} {x0 : PyData} {r0 : List PyData} (r : Reads s.heap v d as) (r' : Reads s.heap v' d' as') (h : cmpOk d d' = true) (hu : A.units + min d.depth d'.depth < cLine)
    (h1 : cmpOk d (.tuple (x0 :: r0)) = true) (h2 : cmpOk d' (.tuple (x0 :: r0)) = true) :
    wpAny (model prog w) A (keyLt' (tuples' (PySem.W.dataType x0 != Value.type "tuple")) v v') (fun b s' => s' = s ∧ b = PySem.W.dataLt d d') (fun _ _ => False) s := by
  obtain ⟨y, q, rfl, al⟩ := cmpOk_tup h1
  obtain ⟨y', q', rfl, al'⟩ := cmpOk_tup h2
  rw [PySem.W.dataLt_tuple]
  cases r with
  | @tuple l o xs n _ _ h1 h2 h3 h4 =>
    cases r' with
    | @tuple l' o' xs' n' _ _ k1 k2 k3 k4 =>
      have n1 : xs.size = (y :: q).length := by simpa using SeqAt.ReadsAll.length _ _ _ h4
      have n2 : xs'.size = (y' :: q').length := by simpa using SeqAt.ReadsAll.length _ _ _ k4
      refine PySem.W.kat_lt h1 h3 k1 k3 (katLex_cmp (prog := prog) (w := w) (A := A) (s := s) (Q := fun b s' => s' = s ∧ b = PyProof.Rows.lexLt PyProof.Rows.itemOrd (PySem.W.keyToksAll (y :: q)) (PySem.W.keyToksAll (y' :: q'))) (y :: q) (y' :: q') 0 _ _ _ _ h4 k4 h (by have q := SeqAt.room_in hu; omega) (fun hb _ x r t ex => ?_) (by rw [n1, n2]) ⟨rfl, rfl⟩)
      obtain ⟨rfl, rfl⟩ := List.cons.inj ex
      rw [← PySem.W.dataType_alike al] at hb
      exact PySem.W.dataType_tuple hb t

theorem each_of {h : Heap} : ∀ {vs : List Value} {ds : List PyData} {as : List Addr}, ReadsAll h vs ds as → PySem.W.EachIs (fun v d => ∃ as, Reads h v d as) vs ds
  | _, _, _, .nil => .nil
  | _, _, _, .cons r rs => .cons ⟨_, r⟩ (each_of rs)
theorem each_keep {h h' : Heap} (k : ∀ b o, h.get? b = some o → h'.get? b = some o) {vs : List Value} {ds : List PyData} (e : PySem.W.EachIs (fun v d => ∃ as, Reads h v d as) vs ds) : PySem.W.EachIs (fun v d => ∃ as, Reads h' v d as) vs ds :=
  e.mono fun v d ⟨as, r⟩ => ⟨as, PyProof.Rows.Reads.keeps k r⟩
theorem sortableD {prog : Program} {w : World} {A : Around} {s : Shared} {h0 : Heap} {a : Addr} {vs : List Value} {ds : List PyData} (e : PySem.W.EachIs (fun v d => ∃ as, Reads h0 v d as) vs ds) (ok : srtOk ds = true) (h2 : 2 ≤ vs.length) (hl : vs.length = ds.length) (hu : A.units + 61 < cLine)
    (k0 : ∀ b o, h0.get? b = some o → b ≠ a ∧ s.heap.get? b = some o) : SrtO.SortableO prog w A s a vs (fun v u => PySem.W.dataLt (datOf h0 ds v) (datOf h0 ds u)) := by
  have all := srtOk_all ok (by omega)
  have al : ∀ d ∈ ds, PySem.W.alike d d = true := fun d hd => (all d hd).1
  intro h' keep
  have k1 : ∀ b o, h0.get? b = some o → h'.get? b = some o := fun b o q => keep b o (k0 b o q).1 (k0 b o q).2
  have e' := each_keep k1 e
  have room : ∀ {d d' : PyData}, d ∈ ds → A.units + min d.depth d'.depth < cLine := fun {d d'} hd => by
    have := (all d hd).2.2.1
    have := Nat.min_le_left d.depth d'.depth
    omega
  match ds, hl, e, ok, all, al, e', @room with
  | [], hl, _, _, _, _, _, _ => exact absurd h2 (by rw [hl]; simp)
  | d0 :: ds0, hl, e, ok, all, al, e', room =>
  have m0 : d0 ∈ d0 :: ds0 := List.mem_cons_self
  have c0 := (all d0 m0).2.2.2 d0 m0
  have rdv : ∀ v ∈ vs, ∃ d, d ∈ d0 :: ds0 ∧ (∃ as, Reads h' v d as) ∧ datOf h0 (d0 :: ds0) v = d := fun v hv => by
    obtain ⟨d, hd, as, r⟩ := e.left v hv
    exact ⟨d, hd, ⟨as, PyProof.Rows.Reads.keeps k1 r⟩, datOf_eq al hd r⟩
  cases d0 with
  | tuple xs =>
    cases xs with
    | nil => simp [cmpOk] at c0
    | cons x0 r0 =>
      refine ⟨tuples' (PySem.W.dataType x0 != Value.type "tuple"), fun Q E hq => ?_, fun p q hp hq => ?_⟩
      · have ht : ∀ d, d ∈ PyData.tuple (x0 :: r0) :: ds0 → ∃ x r, d = .tuple (x :: r) := fun d hd => by
          obtain ⟨y, q, e, _⟩ := cmpOk_tup ((all d hd).2.2.2 _ m0)
          exact ⟨y, q, e⟩
        obtain ⟨fs, t1, t2, t3⟩ := PySem.W.each_katTups e' ht
        refine PySem.W.kat_kind (s := { s with heap := h' }) (T := PySem.W.dataType x0) t1 (by omega) (fun f hf => ?_) (beq_self_eq_true _) hq
        obtain ⟨x, r, as, m1, m2⟩ := t3 f hf
        obtain ⟨y, q, e1, e2⟩ := cmpOk_tup ((all _ m1).2.2.2 _ m0)
        cases e1
        rw [← PySem.W.dataType_alike e2]
        exact PySem.W.looks_reads m2
      · obtain ⟨d, hd, ⟨as, r⟩, e1⟩ := rdv _ hp
        obtain ⟨d', hd', ⟨as', r'⟩, e2⟩ := rdv _ hq
        show wpAny _ _ (keyLt' _ p.1 q.1) (fun r s' => s' = _ ∧ r = PySem.W.dataLt (datOf h0 _ p.1) (datOf h0 _ q.1)) _ _
        rw [e1, e2]
        exact cmp_data (s := { s with heap := h' }) r r' ((all d hd).2.2.2 d' hd') (room hd) ((all d hd).2.2.2 _ m0) ((all d' hd').2.2.2 _ m0)
  | int n =>
    have hi : ∀ d ∈ PyData.int n :: ds0, ∃ k, d = .int k := fun d hd => by
      have q := (all d hd).2.2.2 _ m0
      cases d <;> first | exact ⟨_, rfl⟩ | simp [cmpOk] at q
    refine ⟨oneType', fun Q E hq => ?_, fun p q hp hq => ?_⟩
    · refine PySem.W.kas_kind (s := { s with heap := h' }) (T := PySem.W.dataType (.int n)) h2 (fun v hv => ?_) (by rw [show PySem.W.dataType (.int n) = Value.type "int" from rfl]; decide) (beq_self_eq_true _) hq
      obtain ⟨d, hd, ⟨as, r⟩, _⟩ := rdv v hv
      obtain ⟨k, rfl⟩ := hi d hd
      exact PySem.W.looks_reads (d := .int k) r
    · obtain ⟨d, hd, ⟨as, r⟩, e1⟩ := rdv _ hp
      obtain ⟨d', hd', ⟨as', r'⟩, e2⟩ := rdv _ hq
      obtain ⟨k, rfl⟩ := hi d hd
      obtain ⟨k', rfl⟩ := hi d' hd'
      show wpAny _ _ (keyLt' _ p.1 q.1) (fun r s' => s' = _ ∧ r = PySem.W.dataLt (datOf h0 _ p.1) (datOf h0 _ q.1)) _ _
      rw [e1, e2, keyLt'_oneType]
      exact PySem.W.oneLt_alike (s := { s with heap := h' }) (fun _ t => by simp) r r' (by simp [PySem.W.alike]) (by simp) (room hd) ⟨rfl, rfl⟩
  | str n =>
    have hi : ∀ d ∈ PyData.str n :: ds0, ∃ k, d = .str k := fun d hd => by
      have q := (all d hd).2.2.2 _ m0
      cases d <;> first | exact ⟨_, rfl⟩ | simp [cmpOk] at q
    refine ⟨oneType', fun Q E hq => ?_, fun p q hp hq => ?_⟩
    · refine PySem.W.kas_kind (s := { s with heap := h' }) (T := PySem.W.dataType (.str n)) h2 (fun v hv => ?_) (by rw [show PySem.W.dataType (.str n) = Value.type "str" from rfl]; decide) (beq_self_eq_true _) hq
      obtain ⟨d, hd, ⟨as, r⟩, _⟩ := rdv v hv
      obtain ⟨k, rfl⟩ := hi d hd
      exact PySem.W.looks_reads (d := .str k) r
    · obtain ⟨d, hd, ⟨as, r⟩, e1⟩ := rdv _ hp
      obtain ⟨d', hd', ⟨as', r'⟩, e2⟩ := rdv _ hq
      obtain ⟨k, rfl⟩ := hi d hd
      obtain ⟨k', rfl⟩ := hi d' hd'
      show wpAny _ _ (keyLt' _ p.1 q.1) (fun r s' => s' = _ ∧ r = PySem.W.dataLt (datOf h0 _ p.1) (datOf h0 _ q.1)) _ _
      rw [e1, e2, keyLt'_oneType]
      exact PySem.W.oneLt_alike (s := { s with heap := h' }) (fun _ t => by simp) r r' (by simp [PySem.W.alike]) (by simp) (room hd) ⟨rfl, rfl⟩
  | none => simp [cmpOk] at c0
  | bool _ => simp [cmpOk] at c0
  | list _ => simp [cmpOk] at c0
  | dict _ => simp [cmpOk] at c0
theorem stb_short {α : Type} {lt : α → α → Bool} {l m : List α} (h : SrtO.Stb lt l m) (hm : m.length ≤ 1) : l = m := by
  match m, hm with
  | [], _ => exact List.Perm.eq_nil h.perm
  | [x], _ => exact List.perm_singleton.mp h.perm
  | _ :: _ :: _, h => simp at h
theorem isortD_short {ds : List PyData} (h : ds.length ≤ 1) : isortD ds = ds := by
  match ds, h with
  | [], _ => rfl
  | [x], _ => rfl
  | _ :: _ :: _, h => simp at h

theorem back_rv {K : PySem.W.Frag} {G : Hp} {dat : Value → PyData} : ∀ {out : List Value}, (∀ u ∈ out, ∃ x, RelV x u ∧ Rv K G (dat u) x) → ∃ ys, Vals ys out ∧ RvA K G (out.map dat) ys
  | [], _ => ⟨[], .nil, rfl⟩
  | u :: out, h => by
    obtain ⟨x, r, v⟩ := h u List.mem_cons_self
    obtain ⟨ys, rs, vs⟩ := back_rv (out := out) fun z hz => h z (List.mem_cons_of_mem _ hz)
    exact ⟨x :: ys, .cons r rs, x, ys, rfl, v, vs⟩
theorem canLay_all : ∀ {ds : List PyData}, (∀ d ∈ ds, d.canLay0 = true) → PyData.canLayAll0 ds = true
  | [], _ => by simp [PyData.canLayAll0]
  | d :: ds, h => by
    have a := h d List.mem_cons_self
    have b := canLay_all (ds := ds) fun z hz => h z (List.mem_cons_of_mem _ hz)
    simp [PyData.canLayAll0, a, b]
theorem map_each {h : Heap} {dat : Value → PyData} : ∀ {vs : List Value} {ds : List PyData}, PySem.W.EachIs (fun v d => ∃ as, Reads h v d as) vs ds → (∀ v d as, d ∈ ds → Reads h v d as → dat v = d) → vs.map dat = ds
  | _, _, .nil, _ => rfl
  | _, _, .cons (b := d) ⟨as, r⟩ t, q => by
    rw [List.map_cons, q _ _ _ List.mem_cons_self r, map_each t fun v e bs he => q v e bs (List.mem_cons_of_mem _ he)]
theorem vals_rv {K : PySem.W.Frag} {G : Hp} {h : Heap} {dat : Value → PyData} : ∀ {vs : List Value} {xs : List V} {ds : List PyData}, Vals xs vs → RvA K G ds xs → vs.map dat = ds → ∀ u ∈ vs, ∃ x, RelV x u ∧ Rv K G (dat u) x
  | _, _, ds, .nil, _, _, u, hu => absurd hu (by simp)
  | _, _, ds, .cons r rs, hv, e, u, hu => by
    cases ds with
    | nil => simp at e
    | cons d ds =>
      obtain ⟨x', r', e', v1, v2⟩ := hv
      cases e'
      rw [List.map_cons] at e
      obtain ⟨e1, e2⟩ := List.cons.inj e
      rcases List.mem_cons.mp hu with rfl | hu
      · exact ⟨_, r, by rw [e1]; exact v1⟩
      · exact vals_rv (h := h) rs v2 e2 u hu
def rSortedD (K : PySem.W.Frag) : List V → Hp → VK → Prop := fun vs H Q => ∃ (a : Addr) (xs : List V) (ds : List PyData) (G : Hp), vs = [V.ref a] ∧ SqL K H a xs ∧ Same G H ∧ RvA K G ds xs ∧ srtOk ds = true ∧
  ∀ ys p, RvA K G (isortD ds) ys → H p = none → Q (.ref p) (upd H p (.lst ys))
theorem cr_sortedD {X : Cx} (hu : X.A.units + 65 < cLine) : CallR X (.builtin "sorted") (rSortedD X.K) := by
  intro pins s σ H vs us Q I r h
  obtain ⟨a, xs, ds, G, rfl, hs, gh, rv0, ok, q⟩ := h
  obtain ⟨its, rv, hl, hz⟩ := I.list hs
  rw [Vals.ref1 r]
  have lx := rv0.len
  have li : its.length = ds.length := by rw [← rv.length, lx]
  by_cases h2 : 2 ≤ ds.length
  · have all := srtOk_all ok h2
    have al : ∀ d ∈ ds, PySem.W.alike d d = true := fun d hd => (all d hd).1
    obtain ⟨as, ra⟩ := Dp.readsAll I ds xs its (RvA.dp gh ds xs (canLay_all fun d hd => (all d hd).2.1) rv0) rv
    have e := each_of ra
    have md : its.map (datOf s.heap ds) = ds := map_each e fun v d as hd r => datOf_eq al hd r
    refine SrtO.sorted_ord (ltv := fun v u => PySem.W.dataLt (datOf s.heap ds v) (datOf s.heap ds u)) ⟨fun x y => data_swo.asym _ _, fun x y z => data_swo.tr _ _ _⟩ hl.isList (by rw [← rv.length]; exact hz)
      (fun h3 h₁ a' _ kk => sortableD e ok h3 li (by show X.A.units + 1 + 1 + 61 < cLine; omega) kk) fun out h1 h3 => ?_
    have e1 : out.map (datOf s.heap ds) = isortD ds := SrtO.stb_uniq data_swo (SrtO.srtd_map h1) (isortD_srtd ds) (by
      have q := SrtO.Stb.map data_swo (datOf s.heap ds) h3
      rw [md] at q
      have z := isortD_stb ds
      exact q.trans ⟨z.perm.symm, fun x => (z.cls x).symm⟩)
    obtain ⟨ys, ry, vy⟩ := back_rv (K := X.K) (G := G) (dat := datOf s.heap ds) (out := out) fun u hu => vals_rv (h := s.heap) rv rv0 md u (h3.perm.mem_iff.mp hu)
    rw [e1] at vy
    obtain ⟨ep, he'⟩ := PyProof.Rows.sortedAll_at s.heap its out.toArray
    have hlen : ys.length ≤ sizeLine := by
      rw [ry.length, h3.perm.length_eq, ← rv.length]
      exact hz
    exact ⟨.ref _, upd H (s.heap.objs.size + 1) (.lst ys), I.laid (t' := s.toks) (fun _ _ => PyProof.Rows.sortedAll_old) (Nat.le_succ _) ⟨hlen, out, ep, ry, he'⟩, rfl, q _ _ vy (I.hok.fresh (Nat.le_succ _))⟩
  · refine SrtO.sorted_ord (ltv := fun _ _ => false) ⟨fun x y _ => rfl, fun x y z _ _ => rfl⟩ hl.isList (by rw [← rv.length]; exact hz) (fun h3 => absurd h3 (by omega)) fun out h1 h3 => ?_
    have e1 : out = its := stb_short h3 (by omega)
    obtain ⟨ep, he'⟩ := PyProof.Rows.sortedAll_at s.heap its out.toArray
    subst e1
    refine ⟨.ref _, upd H (s.heap.objs.size + 1) (.lst xs), I.laid (t' := s.toks) (fun _ _ => PyProof.Rows.sortedAll_old) (Nat.le_succ _) ⟨hz, out, ep, rv, he'⟩, rfl, q _ _ ?_ (I.hok.fresh (Nat.le_succ _))⟩
    rw [isortD_short (by omega)]
    exact rv0
def fSorted : List PyData → Option Rz
  | [.list ds] => if srtOk ds = true then some (.l (isortD ds)) else none
  | _ => none
theorem oa_sorted {X : Cx} {hs : NestedKey → Int} : OpA X hs (rSortedD X.K) fSorted := by
  intro ds z xs G H Q gh hz h qx qv ql
  unfold fSorted at hz
  split at hz
  · split at hz
    · rename_i ok
      cases hz
      obtain ⟨x, rfl, a, ys, rfl, h1, h2⟩ := h.one
      exact ⟨a, ys, _, G, rfl, .inl (.inl h1), gh, h2, ok, fun zs p rz hp => ql _ rfl H p zs (.refl _) hp rz⟩
    · cases hz
  · cases hz
theorem dx_sorted {X : Cx} {TG : TGx} {W : WX} {e : Expr} {ra : M (List Arg)} {pos p2 : Pos} (hu : X.A.units + 65 < cLine) (hg : Gl X "sorted") (hm : X.mg "sorted" = none) (ha : DA X TG W [e] ra) (he : starEach [e] X.env = (false, eval e X.env) :: starEach [] X.env := by rfl) :
    DX X TG W (.Call (.Name "sorted" p2) [e] [] pos) (xFn fSorted ra) := dx_fnB (cr_sortedD hu) oa_sorted hg hm rfl ha (by decide) (by decide) he
end TW

end
section
/-! enumerate over a tuple, over a zip. -/
namespace TW
open PySem PySem.Spec PyProof.Rows L2
section
variable {prog : Program} {w : World} {A : Around} {E : Value → Shared → Prop} {s : Shared}

/-! ### a zip, its tuple out or not -/
abbrev ZipAt (h : Heap) (z TI TO : Addr) (o f : Value) : Prop :=
  h.get? z = some { cls := .type "zip", dict := none, data := .fields #[o, f, .bool false, .ref TI, .ref TO], slots := #[] }
/-- the tuple is free, or its address is known -/
def OwnOk (o f : Value) : Prop := (o = .none ∧ f = .bool false) ∨ ∃ (T : Addr) (b : Bool), o = rawInt T ∧ f = .bool b
theorem alive_none {a : Addr} {Q : Option Obj → Shared → Prop} (ho : s.heap.get? a = none) (h : Q none s) : wpAny (model prog w) A (loadIfAlive a) Q E s := by
  have h' : Q (s.heap.get? a) s := by rw [ho]; exact h
  exact fun _ _ _ => h'
theorem own_free {z TI TO : Addr} {o f : Value} {Q : Bool → Shared → Prop} (hz : ZipAt s.heap z TI TO o f) (ho : OwnOk o f) (h1 : Q true s)
    (h2 : ∀ (h' : Heap) (T : Addr), o = rawInt T → ZipAt h' z TI TO o (.bool true) → Heap.SameBut z s.heap h' → Q false { s with heap := h' }) : wpAny (model prog w) A (Builtin.SmallTypes.ownedTupleIsFree (.ref z)) Q E s := by
  rcases ho with ⟨rfl, rfl⟩ | ⟨T, b, rfl, rfl⟩
  · unfold Builtin.SmallTypes.ownedTupleIsFree
    exact wpAny_bind (wpAny_field hz rfl (x := .none) rfl (wpAny_pure h1))
  · cases hT : s.heap.get? T with
    | some oT => exact wpAny_tupleHeld_zip (f := b) hz hT fun h' a c => h2 h' T rfl a c
    | none =>
      unfold Builtin.SmallTypes.ownedTupleIsFree
      refine wpAny_bind (wpAny_field hz rfl (x := rawInt T) rfl ?_)
      show wpAny _ _ (loadIfAlive ((T : Int).toNat) >>= _) _ _ _
      rw [Int.toNat_natCast]
      refine wpAny_bind (alive_none hT ?_)
      exact wpAny_pure h1

theorem zip_step {z TI TO i1 i2 : Addr} {fp1 fp2 : List Addr} {n1 n2 i : Nat} {P1 P2 : Nat → Value → Prop} {St1 St2 : Nat → Heap → Prop} {a1 a2 ow f : Value} {Q : Value → Shared → Prop} (S : ZipSep2 z TI TO i1 i2 fp1 fp2) (D1 : Draws prog w A i1 fp1 n1 P1 St1) (D2 : Draws prog w A i2 fp2 n2 P2 St2)
    (hz : ZipAt s.heap z TI TO ow f) (ho : OwnOk ow f) (hTI : IsTupOf2 s.heap TI (.ref i1) (.ref i2)) (hTO : IsTupOf2 s.heap TO a1 a2) (st1 : St1 i s.heap) (st2 : St2 i s.heap) (hlt1 : i < n1) (hlt2 : i < n2)
    (hQ : ∀ x1 x2 h' tk, P1 i x1 → P2 i x2 → (∃ ow f, ZipAt h' z TI TO ow f ∧ OwnOk ow f) → (∃ a b, IsTupOf2 h' TO a b) → St1 (i + 1) h' → St2 (i + 1) h' → IsTupOf2 h' s.heap.objs.size x1 x2 → h'.objs.size = s.heap.objs.size + 1 →
      (∀ c o, c ≠ z → c ≠ TO → c ≠ i1 → c ≠ i2 → s.heap.get? c = some o → h'.get? c = some o) → Q (.ref s.heap.objs.size) { s with heap := h', toks := tk }) :
    wpAny (model prog w) A (Builtin.«zip.__next__» ⟨[.ref z], []⟩) (fun fin s' => ∃ v, fin = .done (.ret v) ∧ Q v s') E s := by
  obtain ⟨hp, g, d, tk0, os⟩ := s
  show wpAny _ _ (field (.ref z) 2 >>= _) _ _ _
  refine wpAny_bind (wpAny_field hz rfl (x := .bool false) rfl ?_)
  show wpAny _ _ (field (.ref z) 3 >>= _) _ _ _
  refine wpAny_bind (wpAny_field hz rfl (x := .ref TI) rfl ?_)
  refine wpAny_bind (wpAny_seqItems hTI rfl ?_)
  show wpAny _ _ (Builtin.SmallTypes.ownedTupleIsFree (.ref z) >>= _) _ _ _
  refine wpAny_bind (own_free hz ho ?_ fun h₁ T eT hz₁ hs₁ => ?_)
  · -- the tuple is free
    simp only [if_true]
    refine wpAny_bind (wpAny_rule ?_)
    refine wpAny_bind (wpAny_field hz rfl (x := .ref TO) rfl ?_)
    refine wpAny_bind (wpAny_setField_rec hz (by simp) fun g0 hz0 hs0 => ?_)
    replace hz0 : ZipAt g0 z TI TO .ellipsis f := hz0
    replace hs0 : Heap.SameBut z hp g0 := hs0
    refine wpAny_bind ?_
    simp only [List.zipIdx_cons, List.zipIdx_nil, List.forIn_cons, List.forIn_nil]
    refine wpAny_bind (wpAny_bind (wpAny_onRaise ?_))
    show wpAny _ _ (Builtin.SmallTypes.nextOf (.ref i1) >>= _) _ _ ⟨g0, g, d, tk0, os⟩
    refine wpAny_bind (D1.item i _ _ _ hlt1 (D1.over st1 hs0 S.zf1) fun x1 p1 tk1 hx1 sn1 hp1 => wpAny_pure ?_)
    replace hp1 : Heap.SameBut i1 g0 p1 := hp1
    have hU1 : IsTupOf2 p1 TO a1 a2 := hp1.extBut _ _ S.Ti1 (hs0.extBut _ _ S.TOz hTO)
    refine wpAny_bind (wpAny_seqItems (s := ⟨p1, g, d, tk1, os⟩) hU1 rfl ?_)
    refine wpAny_bind (updateSeq_IsTupOf2 (s := ⟨p1, g, d, tk1, os⟩) hU1 fun g1 hT1 hs1 => ?_)
    replace hT1 : IsTupOf2 g1 TO x1 a2 := hT1
    replace hs1 : Heap.SameBut TO p1 g1 := hs1
    refine wpAny_bind (wpAny_letGo (wpAny_pure ?_))
    refine wpAny_bind (wpAny_bind (wpAny_onRaise ?_))
    show wpAny _ _ (Builtin.SmallTypes.nextOf (.ref i2) >>= _) _ _ ⟨g1, g, d, tk1, os⟩
    refine wpAny_bind (D2.item i _ _ _ hlt2 (D2.over (D2.over (D2.over st2 hs0 S.zf2) hp1 S.sep1_2) hs1 S.Tf2) fun x2 p2 tk2 hx2 sn2 hp2 => wpAny_pure ?_)
    replace hp2 : Heap.SameBut i2 g1 p2 := hp2
    have hU2 : IsTupOf2 p2 TO x1 a2 := hp2.extBut _ _ S.Ti2 hT1
    refine wpAny_bind (wpAny_seqItems (s := ⟨p2, g, d, tk2, os⟩) hU2 rfl ?_)
    refine wpAny_bind (updateSeq_IsTupOf2 (s := ⟨p2, g, d, tk2, os⟩) hU2 fun g2 hT2 hs2 => ?_)
    replace hT2 : IsTupOf2 g2 TO x1 x2 := hT2
    replace hs2 : Heap.SameBut TO p2 g2 := hs2
    refine wpAny_bind (wpAny_letGo (wpAny_pure (wpAny_pure ?_)))
    refine wpAny_bind (wpAny_seqItems (s := ⟨g2, g, d, tk2, os⟩) hT2 rfl ?_)
    refine wpAny_bind (wpAny_newTuple ?_)
    have hsz : g2.objs.size = hp.objs.size := by rw [hs2.1, hp2.1, hs1.1, hp1.1, hs0.1]
    have hzz : ZipAt g2 z TI TO .ellipsis f := (hs2.extBut _ _ S.TOz.symm (hp2.extBut _ _ S.zi2 (hs1.extBut _ _ S.TOz.symm (hp1.extBut _ _ S.zi1 hz0))))
    have hkk : ∀ c o, c ≠ z → c ≠ TO → c ≠ i1 → c ≠ i2 → hp.get? c = some o → g2.get? c = some o := fun c o cz cT c1 c2 e =>
      (hs2.extBut _ _ cT (hp2.extBut _ _ c2 (hs1.extBut _ _ cT (hp1.extBut _ _ c1 (hs0.extBut _ _ cz e)))))
    have hj1 : St1 (i + 1) g2 := (D1.over (D1.over (D1.over sn1 hs1 S.Tf1) hp2 S.sep2_1) hs2 S.Tf1)
    have hj2 : St2 (i + 1) g2 := (D2.over sn2 hs2 S.Tf2)
    have hzlt : z < g2.objs.size := Heap.lt_size hzz
    show wpAny _ _ (Builtin.SmallTypes.ownedTupleHandOut (.ref z) (.ref g2.objs.size) >>= _) _ _ ⟨g2.push { cls := .type "tuple", data := .seq #[x1, x2] }, g, d, tk2, os⟩
    refine wpAny_bind ?_
    unfold Builtin.SmallTypes.ownedTupleHandOut
    have hz₆ : ZipAt (g2.push { cls := .type "tuple", data := .seq #[x1, x2] }) z TI TO .ellipsis f := Heap.get?_push_of_some _ hzz
    refine wpAny_bind (wpAny_setField_rec hz₆ (by simp) fun h₇ hz₇ hs₇ => ?_)
    replace hz₇ : ZipAt h₇ z TI TO (rawInt g2.objs.size) f := hz₇
    refine wpAny_setField_rec hz₇ (by simp) fun h₈ hz₈ hs₈ => ?_
    replace hz₈ : ZipAt h₈ z TI TO (rawInt g2.objs.size) (.bool false) := hz₈
    replace hs₇ : Heap.SameBut z (g2.push { cls := .type "tuple", data := .seq #[x1, x2] }) h₇ := hs₇
    replace hs₈ : Heap.SameBut z h₇ h₈ := hs₈
    have up : ∀ c o, c ≠ z → g2.get? c = some o → h₈.get? c = some o := fun c o c1 e => hs₈.extBut _ _ c1 (hs₇.extBut _ _ c1 (Heap.get?_push_of_some _ e))
    have hT₈ : IsTupOf2 h₈ g2.objs.size x1 x2 := hs₈.extBut _ _ (Nat.ne_of_gt hzlt) (hs₇.extBut _ _ (Nat.ne_of_gt hzlt) (Heap.get?_push_size _ rfl))
    have hz8 : h₈.objs.size = g2.objs.size + 1 := by rw [hs₈.1, hs₇.1, Heap.size_push]
    rw [hsz] at hz₈ hT₈ hz8
    refine wpAny_pure ⟨_, rfl, ?_⟩
    show Q (.ref g2.objs.size) ⟨h₈, g, d, tk2, os⟩
    rw [hsz]
    exact hQ x1 x2 h₈ tk2 hx1 hx2 ⟨_, _, hz₈, .inr ⟨_, _, rfl, rfl⟩⟩ ⟨_, _, up _ _ S.TOz hT2⟩ (D1.frame _ _ _ hj1 fun b hb o e => up b o (fun q => S.zf1 (q ▸ hb)) e) (D2.frame _ _ _ hj2 fun b hb o e => up b o (fun q => S.zf2 (q ▸ hb)) e) hT₈ hz8 fun c o cz cT c1 c2 e => up c o cz (hkk c o cz cT c1 c2 e)
  · -- the tuple is out: a new one
    replace hs₁ : Heap.SameBut z hp h₁ := hs₁
    simp only [Bool.false_eq_true, if_false]
    refine wpAny_bind ?_
    rw [← Array.forIn_toList]
    simp only [List.forIn_cons, List.forIn_nil]
    refine wpAny_bind (wpAny_bind (wpAny_holding ?_))
    show wpAny _ _ (Builtin.SmallTypes.nextOf (.ref i1) >>= _) _ _ ⟨h₁, g, d, tk0, os⟩
    refine wpAny_bind (D1.item i _ _ _ hlt1 (D1.over st1 hs₁ S.zf1) fun x1 p1 tk1 hx1 sn1 hp1 => wpAny_pure ?_)
    replace hp1 : Heap.SameBut i1 h₁ p1 := hp1
    refine wpAny_pure ?_
    refine wpAny_bind (wpAny_bind (wpAny_holding ?_))
    show wpAny _ _ (Builtin.SmallTypes.nextOf (.ref i2) >>= _) _ _ ⟨p1, g, d, tk1, os⟩
    refine wpAny_bind (D2.item i _ _ _ hlt2 (D2.over (D2.over st2 hs₁ S.zf2) hp1 S.sep1_2) fun x2 p2 tk2 hx2 sn2 hp2 => wpAny_pure ?_)
    replace hp2 : Heap.SameBut i2 p1 p2 := hp2
    refine wpAny_pure (wpAny_pure ?_)
    show wpAny _ _ (newTuple [x1, x2] >>= _) _ _ ⟨p2, g, d, tk2, os⟩
    refine wpAny_bind (wpAny_newTuple ?_)
    have hsz : p2.objs.size = hp.objs.size := by rw [hp2.1, hp1.1, hs₁.1]
    have hz2 : ZipAt p2 z TI TO ow (.bool true) := hp2.extBut _ _ S.zi2 (hp1.extBut _ _ S.zi1 hz₁)
    have hk : ∀ c o, c ≠ z → c ≠ i1 → c ≠ i2 → hp.get? c = some o → p2.get? c = some o := fun c o c1 c2 c3 e => hp2.extBut _ _ c3 (hp1.extBut _ _ c2 (hs₁.extBut _ _ c1 e))
    have up : ∀ c o, p2.get? c = some o → (p2.push { cls := .type "tuple", data := .seq #[x1, x2] }).get? c = some o := fun c o e => Heap.get?_push_of_some _ e
    have hq : IsTupOf2 (p2.push { cls := .type "tuple", data := .seq #[x1, x2] }) p2.objs.size x1 x2 := Heap.get?_push_size _ rfl
    have hz4 : (p2.push { cls := .type "tuple", data := .seq #[x1, x2] }).objs.size = p2.objs.size + 1 := Heap.size_push ..
    refine wpAny_pure ⟨_, rfl, ?_⟩
    show Q (.ref p2.objs.size) ⟨_, g, d, tk2, os⟩
    rw [hsz] at hq hz4 ⊢
    have tO : IsTupOf2 p2 TO a1 a2 := hk _ _ S.TOz S.Ti1 S.Ti2 hTO
    exact hQ x1 x2 _ tk2 hx1 hx2 ⟨_, _, up _ _ hz2, .inr ⟨T, true, eT, rfl⟩⟩ ⟨_, _, up _ _ tO⟩ (D1.frame _ _ _ (D1.over sn1 hp2 S.sep2_1) fun b hb o e => up b o e) (D2.frame _ _ _ sn2 fun b hb o e => up b o e) hq hz4 fun c o cz cT c1 c2 e => up c o (hk c o cz c1 c2 e)

theorem zip_end {z TI TO i1 i2 : Addr} {fp1 fp2 : List Addr} {n1 n2 i : Nat} {P1 P2 : Nat → Value → Prop} {St1 St2 : Nat → Heap → Prop} {a1 a2 ow f : Value} {Q : Fin → Shared → Prop} (S : ZipSep2 z TI TO i1 i2 fp1 fp2) (D1 : Draws prog w A i1 fp1 n1 P1 St1) (D2 : Draws prog w A i2 fp2 n2 P2 St2)
    (hz : ZipAt s.heap z TI TO ow f) (ho : OwnOk ow f) (hTI : IsTupOf2 s.heap TI (.ref i1) (.ref i2)) (hTO : IsTupOf2 s.heap TO a1 a2) (st1 : St1 i s.heap) (st2 : St2 i s.heap) (hle1 : i ≤ n1) (hle2 : i ≤ n2) (hend : i = n1 ∨ i = n2)
    (hE : ∀ h' tk e, (∀ c o, c ≠ z → c ≠ TO → c ≠ i1 → c ≠ i2 → s.heap.get? c = some o → h'.get? c = some o) → (∃ o, h'.get? e = some o ∧ o.cls = .type "StopIteration") → E (.ref e) { s with heap := h', toks := tk }) :
    wpAny (model prog w) A (Builtin.«zip.__next__» ⟨[.ref z], []⟩) Q E s := by
  obtain ⟨hp, g, d, tk0, os⟩ := s
  show wpAny _ _ (field (.ref z) 2 >>= _) _ _ _
  refine wpAny_bind (wpAny_field hz rfl (x := .bool false) rfl ?_)
  show wpAny _ _ (field (.ref z) 3 >>= _) _ _ _
  refine wpAny_bind (wpAny_field hz rfl (x := .ref TI) rfl ?_)
  refine wpAny_bind (wpAny_seqItems hTI rfl ?_)
  show wpAny _ _ (Builtin.SmallTypes.ownedTupleIsFree (.ref z) >>= _) _ _ _
  refine wpAny_bind (own_free hz ho ?_ fun h₁ T eT hz₁ hs₁ => ?_)
  · simp only [if_true]
    refine wpAny_bind (wpAny_rule ?_)
    refine wpAny_bind (wpAny_field hz rfl (x := .ref TO) rfl ?_)
    refine wpAny_bind (wpAny_setField_rec hz (by simp) fun g0 hz0 hs0 => ?_)
    replace hz0 : ZipAt g0 z TI TO .ellipsis f := hz0
    replace hs0 : Heap.SameBut z hp g0 := hs0
    refine wpAny_bind ?_
    simp only [List.zipIdx_cons, List.zipIdx_nil, List.forIn_cons, List.forIn_nil]
    refine wpAny_bind (wpAny_bind (wpAny_onRaise ?_))
    show wpAny _ _ (Builtin.SmallTypes.nextOf (.ref i1) >>= _) _ _ ⟨g0, g, d, tk0, os⟩
    by_cases hlt1 : i < n1
    · refine wpAny_bind (D1.item i _ _ _ hlt1 (D1.over st1 hs0 S.zf1) fun x1 p1 tk1 hx1 sn1 hp1 => wpAny_pure ?_)
      replace hp1 : Heap.SameBut i1 g0 p1 := hp1
      have hU1 : IsTupOf2 p1 TO a1 a2 := hp1.extBut _ _ S.Ti1 (hs0.extBut _ _ S.TOz hTO)
      refine wpAny_bind (wpAny_seqItems (s := ⟨p1, g, d, tk1, os⟩) hU1 rfl ?_)
      refine wpAny_bind (updateSeq_IsTupOf2 (s := ⟨p1, g, d, tk1, os⟩) hU1 fun g1 hT1 hs1 => ?_)
      replace hT1 : IsTupOf2 g1 TO x1 a2 := hT1
      replace hs1 : Heap.SameBut TO p1 g1 := hs1
      refine wpAny_bind (wpAny_letGo (wpAny_pure ?_))
      have hi2 : i = n2 := by omega
      refine wpAny_bind (wpAny_bind (wpAny_onRaise ?_))
      show wpAny _ _ (Builtin.SmallTypes.nextOf (.ref i2) >>= _) _ _ ⟨g1, g, d, tk1, os⟩
      refine wpAny_bind (D2.done ⟨g1, g, d, tk1, os⟩ _ _ (by rw [← hi2]; exact (D2.over (D2.over (D2.over st2 hs0 S.zf2) hp1 S.sep1_2) hs1 S.Tf2)) fun q e hq he => ?_)
      replace hq : Heap.ExtBut i2 g1 q := hq
      obtain ⟨oe, hoe, hce⟩ := he
      replace hoe : q.get? e = some oe := hoe
      have hzq : ZipAt q z TI TO .ellipsis f := hq _ _ S.zi2 (hs1.extBut _ _ S.TOz.symm (hp1.extBut _ _ S.zi1 hz0))
      have hez : e ≠ z := fun x => by subst x; rw [hzq] at hoe; cases hoe; simp at hce
      refine wpAny_setField_rec (s := ⟨q, g, d, tk1, os⟩) hzq (by simp) fun q' _ hq' => ?_
      replace hq' : Heap.SameBut z q q' := hq'
      exact hE q' tk1 e (fun c o cz cT c1 c2 x => hq'.extBut _ _ cz (hq _ _ c2 (hs1.extBut _ _ cT (hp1.extBut _ _ c1 (hs0.extBut _ _ cz x))))) ⟨oe, hq'.extBut _ _ hez hoe, hce⟩
    · have hi1 : i = n1 := by omega
      refine wpAny_bind (D1.done ⟨g0, g, d, tk0, os⟩ _ _ (by rw [← hi1]; exact (D1.over st1 hs0 S.zf1)) fun q e hq he => ?_)
      replace hq : Heap.ExtBut i1 g0 q := hq
      obtain ⟨oe, hoe, hce⟩ := he
      replace hoe : q.get? e = some oe := hoe
      have hzq : ZipAt q z TI TO .ellipsis f := hq _ _ S.zi1 hz0
      have hez : e ≠ z := fun x => by subst x; rw [hzq] at hoe; cases hoe; simp at hce
      refine wpAny_setField_rec (s := ⟨q, g, d, tk0, os⟩) hzq (by simp) fun q' _ hq' => ?_
      replace hq' : Heap.SameBut z q q' := hq'
      exact hE q' tk0 e (fun c o cz cT c1 c2 x => hq'.extBut _ _ cz (hq _ _ c1 (hs0.extBut _ _ cz x))) ⟨oe, hq'.extBut _ _ hez hoe, hce⟩
  · replace hs₁ : Heap.SameBut z hp h₁ := hs₁
    simp only [Bool.false_eq_true, if_false]
    refine wpAny_bind ?_
    rw [← Array.forIn_toList]
    simp only [List.forIn_cons, List.forIn_nil]
    refine wpAny_bind (wpAny_bind (wpAny_holding ?_))
    show wpAny _ _ (Builtin.SmallTypes.nextOf (.ref i1) >>= _) _ _ ⟨h₁, g, d, tk0, os⟩
    by_cases hlt1 : i < n1
    · refine wpAny_bind (D1.item i _ _ _ hlt1 (D1.over st1 hs₁ S.zf1) fun x1 p1 tk1 hx1 sn1 hp1 => wpAny_pure ?_)
      replace hp1 : Heap.SameBut i1 h₁ p1 := hp1
      refine wpAny_pure ?_
      have hi2 : i = n2 := by omega
      refine wpAny_bind (wpAny_bind (wpAny_holding ?_))
      show wpAny _ _ (Builtin.SmallTypes.nextOf (.ref i2) >>= _) _ _ ⟨p1, g, d, tk1, os⟩
      refine wpAny_bind (D2.done ⟨p1, g, d, tk1, os⟩ _ _ (by rw [← hi2]; exact (D2.over (D2.over st2 hs₁ S.zf2) hp1 S.sep1_2)) fun q e hq he => ?_)
      replace hq : Heap.ExtBut i2 p1 q := hq
      exact hE q tk1 e (fun c o cz cT c1 c2 x => hq _ _ c2 (hp1.extBut _ _ c1 (hs₁.extBut _ _ cz x))) he
    · have hi1 : i = n1 := by omega
      refine wpAny_bind (D1.done ⟨h₁, g, d, tk0, os⟩ _ _ (by rw [← hi1]; exact (D1.over st1 hs₁ S.zf1)) fun q e hq he => ?_)
      replace hq : Heap.ExtBut i1 h₁ q := hq
      exact hE q tk0 e (fun c o cz cT c1 c2 x => hq _ _ c1 (hs₁.extBut _ _ cz x)) he

/-! ### enumerate over what draws so -/
def Drawn (prog : Program) (w : World) (A : Around) (E : Value → Shared → Prop) (s : Shared) (it : Addr) (ch : List Addr) (R : Value → Heap → Nat → Prop) : Prop :=
  ∀ Q : Value → Shared → Prop, (∀ x h₁ tk, R x h₁ tk → (∀ b o, b ∉ ch → s.heap.get? b = some o → h₁.get? b = some o) → s.heap.objs.size ≤ h₁.objs.size → Q x { s with heap := h₁, toks := tk }) → wpAny (model prog w) A (Builtin.SmallTypes.nextOf (.ref it)) Q E s
theorem enum_step {e it : Addr} {ch : List Addr} {R : Value → Heap → Nat → Prop} {i : Nat} {old : Value} {Q : Value → Shared → Prop} (D : Drawn prog w A E s it ch R) (he : IsEnum s.heap e it i old) (hef : e ∉ ch)
    (hQ : ∀ x h₁ tk h', R x h₁ tk → (∀ b o, b ∉ ch → s.heap.get? b = some o → h₁.get? b = some o) → s.heap.objs.size ≤ h₁.objs.size → (∀ b o, b ≠ e → h₁.get? b = some o → h'.get? b = some o) → IsEnumOut h' e it ((i : Int) + 1) x h₁.objs.size →
      h'.get? h₁.objs.size = some { cls := .type "tuple", data := .seq #[.int i tk, x] } → h'.objs.size = h₁.objs.size + 1 → Q (.ref h₁.objs.size) { s with heap := h', toks := tk + 1 }) :
    wpAny (model prog w) A (Builtin.«enumerate.__next__» ⟨[.ref e], []⟩) (fun fin s' => ∃ v, fin = .done (.ret v) ∧ Q v s') E s := by
  obtain ⟨hp, g, d, tk₀, os⟩ := s
  show wpAny _ _ (field (.ref e) 2 >>= _) _ _ _
  refine wpAny_bind (wpAny_field he rfl (x := .ref it) rfl ?_)
  refine wpAny_bind (D _ fun x h₁ tk hR hk hz => ?_)
  replace hk : ∀ b o, b ∉ ch → hp.get? b = some o → h₁.get? b = some o := hk
  replace hz : hp.objs.size ≤ h₁.objs.size := hz
  have he₁ : IsEnum h₁ e it i old := hk _ _ hef he
  show wpAny _ _ (field (.ref e) 3 >>= _) _ _ ⟨h₁, g, d, tk, os⟩
  refine wpAny_bind (wpAny_field he₁ rfl (x := rawInt i) rfl ?_)
  show wpAny _ _ (field (.ref e) 4 >>= _) _ _ ⟨h₁, g, d, tk, os⟩
  refine wpAny_bind (wpAny_field he₁ rfl (x := .none) rfl ?_)
  show wpAny _ _ (mkInt i >>= _) _ _ ⟨h₁, g, d, tk, os⟩
  refine wpAny_bind (wpAny_mkInt ?_)
  show wpAny _ _ (setField (.ref e) 3 (rawInt ((i : Int) + 1)) >>= _) _ _ ⟨h₁, g, d, tk + 1, os⟩
  refine wpAny_bind (wpAny_setField_rec he₁ (by simp) fun h₂ he₂ hs₂ => ?_)
  replace hs₂ : Heap.SameBut e h₁ h₂ := hs₂
  replace he₂ : IsEnum h₂ e it ((i : Int) + 1) old := he₂
  show wpAny _ _ (setField (.ref e) 4 .none >>= _) _ _ ⟨h₂, g, d, tk + 1, os⟩
  refine wpAny_bind (wpAny_setField_rec he₂ (by simp) fun h₃ he₃ hs₃ => ?_)
  replace hs₃ : Heap.SameBut e h₂ h₃ := hs₃
  replace he₃ : IsEnum h₃ e it ((i : Int) + 1) old := he₃
  show wpAny _ _ (newTuple [.int i tk, x] >>= _) _ _ ⟨h₃, g, d, tk + 1, os⟩
  refine wpAny_bind (wpAny_newTuple ?_)
  have he₄ : IsEnum (h₃.push { cls := .type "tuple", data := .seq #[.int i tk, x] }) e it ((i : Int) + 1) old := Heap.get?_push_of_some _ he₃
  generalize hh₄ : h₃.push { cls := .type "tuple", data := .seq #[.int i tk, x] } = h₄ at he₄
  have hsz : h₃.objs.size = h₁.objs.size := by rw [hs₃.1, hs₂.1]
  have hel : e < h₁.objs.size := Heap.lt_size he₁
  have ht₄ : h₄.get? h₁.objs.size = some { cls := .type "tuple", data := .seq #[.int i tk, x] } := by rw [← hh₄, ← hsz]; exact Heap.get?_push_size _ rfl
  have hz₄ : h₄.objs.size = h₁.objs.size + 1 := by rw [← hh₄, Heap.size_push, hsz]
  have hk₄ : ∀ b o, b ≠ e → h₁.get? b = some o → h₄.get? b = some o := fun b o hbe hb => by
    rw [← hh₄]; exact Heap.get?_push_of_some _ (hs₃.extBut b o hbe (hs₂.extBut b o hbe hb))
  show wpAny _ _ (Builtin.SmallTypes.ownedTupleIsFree (.ref e) >>= _) _ _ ⟨h₄, g, d, tk + 1, os⟩
  rw [hsz]
  clear hh₄ he₃ hs₃ he₂ hs₂ hsz h₃ h₂
  refine wpAny_bind ?_
  · unfold Builtin.SmallTypes.ownedTupleIsFree
    refine wpAny_bind (wpAny_field he₄ rfl (x := .none) rfl (wpAny_pure ?_))
    simp only [if_true]
    refine wpAny_bind (wpAny_rule ?_)
    refine wpAny_bind (wpAny_field he₄ rfl (x := old) rfl ?_)
    refine wpAny_bind (wpAny_setField_rec he₄ (by simp) fun h₅ he₅ hs₅ => ?_)
    replace hs₅ : Heap.SameBut e h₄ h₅ := hs₅
    replace he₅ : IsEnum h₅ e it ((i : Int) + 1) x := he₅
    show wpAny _ _ (Builtin.SmallTypes.ownedTupleHandOut (.ref e) (.ref h₁.objs.size) >>= _) _ _ ⟨h₅, g, d, tk + 1, os⟩
    refine wpAny_bind ?_
    · unfold Builtin.SmallTypes.ownedTupleHandOut
      refine wpAny_bind (wpAny_setField_rec he₅ (by simp) fun h₆ he₆ hs₆ => ?_)
      replace hs₆ : Heap.SameBut e h₅ h₆ := hs₆
      replace he₆ : IsEnumOut h₆ e it ((i : Int) + 1) x h₁.objs.size := he₆
      refine wpAny_setField_rec he₆ (by simp) fun h₇ he₇ hs₇ => ?_
      replace hs₇ : Heap.SameBut e h₆ h₇ := hs₇
      replace he₇ : IsEnumOut h₇ e it ((i : Int) + 1) x h₁.objs.size := he₇
      refine wpAny_bind (wpAny_letGo (wpAny_pure ⟨_, rfl, hQ x h₁ tk h₇ hR hk hz ?_ he₇ ?_ ?_⟩))
      · exact fun b o hbe hb => hs₇.extBut b o hbe (hs₆.extBut b o hbe (hs₅.extBut b o hbe (hk₄ b o hbe hb)))
      · exact hs₇.extBut _ _ (Nat.ne_of_gt hel) (hs₆.extBut _ _ (Nat.ne_of_gt hel) (hs₅.extBut _ _ (Nat.ne_of_gt hel) ht₄))
      · rw [hs₇.1, hs₆.1, hs₅.1, hz₄]
theorem enum_next {e it : Addr} {ch : List Addr} {R : Value → Heap → Nat → Prop} {i : Nat} {old : Value} {Q : Option Value → Shared → Prop} (D : ∀ E, Drawn prog w A.in1 E s it ch R) (he : IsEnum s.heap e it i old) (hef : e ∉ ch)
    (hQ : ∀ x h₁ tk h', R x h₁ tk → (∀ b o, b ∉ ch → s.heap.get? b = some o → h₁.get? b = some o) → s.heap.objs.size ≤ h₁.objs.size → (∀ b o, b ≠ e → h₁.get? b = some o → h'.get? b = some o) → IsEnumOut h' e it ((i : Int) + 1) x h₁.objs.size →
      h'.get? h₁.objs.size = some { cls := .type "tuple", data := .seq #[.int i tk, x] } → h'.objs.size = h₁.objs.size + 1 → Q (some (.ref h₁.objs.size)) { s with heap := h', toks := tk + 1 }) :
    wpAny (model prog w) A (pyNext (.ref e)) Q E s := by
  have hT : s.TypeIs (.ref e) "enumerate" := ⟨_, he, rfl⟩
  unfold pyNext
  exact wpAny_bind (wpAny_attempt (wpAny_callSpecial?_slot (name := Str.ofString "__next__") hT F.slot_enumerate_next
    (wpAny_call_entry F.slot_enumerate_next hT F.entry_enumerate_next
      (enum_step (D _) he hef fun x h₁ tk h' a b c d e' f g => wpAny_pure (hQ x h₁ tk h' a b c d e' f g)) (F.args_enumerate_next_1 _))))
theorem enum_done {e it : Addr} {i : Int} {old : Value} {P0 : Heap → Nat → Prop} {Q : Option Value → Shared → Prop} (he : IsEnum s.heap e it i old)
    (D : ∀ (E : Value → Shared → Prop) (Q : Value → Shared → Prop), (∀ h' tk x, (∃ o, h'.get? x = some o ∧ o.cls = .type "StopIteration") → P0 h' tk → E (.ref x) { s with heap := h', toks := tk }) → wpAny (model prog w) A.in1 (Builtin.SmallTypes.nextOf (.ref it)) Q E s)
    (hQ : ∀ h' tk, P0 h' tk → Q none { s with heap := h', toks := tk }) : wpAny (model prog w) A (pyNext (.ref e)) Q E s := by
  have hT : s.TypeIs (.ref e) "enumerate" := ⟨_, he, rfl⟩
  unfold pyNext
  refine wpAny_bind (wpAny_attempt (wpAny_callSpecial?_slot (name := Str.ofString "__next__") hT F.slot_enumerate_next
    (wpAny_call_entry F.slot_enumerate_next hT F.entry_enumerate_next ?_ (F.args_enumerate_next_1 _))))
  show wpAny _ _ (field (.ref e) 2 >>= _) _ _ _
  refine wpAny_bind (wpAny_field he rfl (x := .ref it) rfl ?_)
  refine wpAny_bind (D _ _ fun h' tk x hx' p0 => ?_)
  obtain ⟨o, ho, hc⟩ := hx'
  refine wpAny_bind (wpAny_isInstance (T := "StopIteration") (b := true) ⟨o, ho, hc⟩ isSubtype_stop ?_)
  exact wpAny_pure (hQ _ _ p0)
end

/-! ### enumerate(v) begins -/
def IterTo (v : Value) (hp : Heap) (it : Addr) (hp' : Heap) : Prop := ∀ (prog : Program) (w : World) (A : Around) (E : Value → Shared → Prop) (s : Shared) (Q : Value → Shared → Prop), s.heap = hp → Q (.ref it) { s with heap := hp' } → wpAny (model prog w) A (pyIter v) Q E s
theorem meets_enum_newG {v : Value} {hp hp' : Heap} {it : Addr} (B : IterTo v hp it hp') : Meets (Builtin.«enumerate.__new__» ⟨[.type "enumerate", v], []⟩) (fun _ R s => s.heap = hp ∧
      R (.ok (.ret (.ref hp'.objs.size))) { s with heap := hp'.push { cls := .type "enumerate", data := .fields #[.none, .bool false, .ref it, rawInt 0, .none, .none] } }) :=
  .of_wp fun prog w A R s h => by
    obtain ⟨hp0, g, d, tk, os⟩ := s
    obtain ⟨h1, h⟩ := h
    replace h1 : hp0 = hp := h1
    subst h1
    have hsub := sub_enumerate
    have q1 : ∀ {A' : Around} {E : Value → Shared → Prop} {Q : Value → Shared → Prop}, Q (.ref it) ⟨hp', g, d, tk, os⟩ → wpAny (model prog w) A' (pyIter v) Q E ⟨hp0, g, d, tk, os⟩ :=
      fun q => B prog w _ _ ⟨hp0, g, d, tk, os⟩ _ rfl q
    wp_walk using q1
    refine wpAny_stack_any fun st => wpAny_pure ?_
    split
    · rename_i c _ _ _ _ _
      cases (c == Value.type "enumerate")
      · wp_walk using q1
        exact ⟨_, rfl, h⟩
      · wp_walk using q1
        exact ⟨_, rfl, h⟩
    · wp_walk using q1
      exact ⟨_, rfl, h⟩
theorem call_enumG {prog : Program} {w : World} {A : Around} {E : Value → Shared → Prop} {s : Shared} {v : Value} {hp' : Heap} {it : Addr} {Q : Value → Shared → Prop} (B : IterTo v s.heap it hp')
    (h : ∀ h', IsEnum h' hp'.objs.size it 0 .none → h'.objs.size = hp'.objs.size + 1 → (∀ b o, hp'.get? b = some o → h'.get? b = some o) → Q (.ref hp'.objs.size) { s with heap := h' }) :
    wpAny (model prog w) A (call (.type "enumerate") [v]) Q E s := by
  refine callType_new F.called_enumerate (by decide) (F.typeCall_enumerate_1 _) (F.newCall_enumerate_1 _) (fun obj => F.args_object_init_2 obj _) F.entry_enumerate_new
    (meets_enum_newG B) ⟨rfl, ?_⟩
  have he : IsEnum (hp'.push { cls := .type "enumerate", data := .fields #[.none, .bool false, .ref it, rawInt 0, .none, .none] }) hp'.objs.size it 0 .none := Heap.get?_push_size _ rfl
  exact ⟨⟨_, he, rfl⟩, h _ he (Heap.size_push ..) fun b o x => Heap.get?_push_of_some _ x⟩
end TW

end
section
namespace TW
open PySem PySem.Spec PyProof.Rows L2
structure Inner (P : Program) (w : World) (K : PySem.W.Frag) (J : It) (fp : List Addr) (it : Addr) (tn : Nat → Heap → Prop) : Prop where
  obj : ∀ i h, tn i h → ∀ b ∈ fp, ∃ o, h.get? b = some o ∧ ∀ v, o.data ≠ .cell v
  keep : ∀ i h h', tn i h → (∀ b ∈ fp, ∀ o, h.get? b = some o → h'.get? b = some o) → tn i h'
  item : ∀ (X : Cx), X.prog = P → X.w = w → X.K = K → X.calm = true → ∀ (i : Nat) (pins : List (Addr × Obj)) (s : Shared) (σ : L2.St) (H : Hp), Inv X pins σ H s → (∀ b ∈ fp, FpOk X pins H b) → tn i s.heap → J.go i H →
    ∀ E, Drawn P w X.A.in1 E s it fp (fun u h₁ tk => ∃ x H', Inv X pins σ H' { s with heap := h₁, toks := tk } ∧ RelV x u ∧ J.yld i H x H' ∧ tn (i + 1) h₁ ∧ ∀ b, b < s.heap.objs.size → H b = none → H' b = none)
  done : ∀ (X : Cx), X.prog = P → X.w = w → X.K = K → X.calm = true → ∀ (i : Nat) (pins : List (Addr × Obj)) (s : Shared) (σ : L2.St) (H : Hp), Inv X pins σ H s → (∀ b ∈ fp, FpOk X pins H b) → tn i s.heap → J.stop i H →
    ∀ (E : Value → Shared → Prop) (Q : Value → Shared → Prop), (∀ h' tk x, (∃ o, h'.get? x = some o ∧ o.cls = .type "StopIteration") → (∀ b o, b ∉ fp → s.heap.get? b = some o → h'.get? b = some o) → E (.ref x) { s with heap := h', toks := tk }) → wpAny (model P w) X.A.in1 (Builtin.SmallTypes.nextOf (.ref it)) Q E s
def ItE (J : It) : It := ⟨J.go, fun i H v H' => ∃ x H1 T, J.yld i H x H1 ∧ v = .ref T ∧ H1 T = none ∧ H' = upd H1 T (.tup [.int (i : Nat), x]), J.stop⟩
theorem turn_enumG {P : Program} {w : World} {K : PySem.W.Frag} {elts : List Expr} {kk : Nat} {tpos : Pos} {J : It} {fp : List Addr} {it e : Addr} {tn : Nat → Heap → Prop} (In : Inner P w K J fp it tn) (hef : e ∉ fp) :
    Turn P w K (.Tuple elts kk tpos) (ItE J) (e :: fp) e (fun i h => (∃ old, IsEnum h e it ((i : Nat) : Int) old) ∧ tn i h) where
  mem := by simp
  obj := fun i h st b hb => by
    obtain ⟨⟨old, he⟩, st⟩ := st
    rcases List.mem_cons.mp hb with z | z
    · rw [z]; exact ⟨_, he, fun v q => nomatch q⟩
    · exact In.obj i h st b z
  keep := fun i h h' st k => let ⟨⟨old, he⟩, st⟩ := st; ⟨⟨old, k e (by simp) _ he⟩, In.keep i h h' st fun b hb o q => k b (List.mem_cons_of_mem _ hb) o q⟩
  item := by
    intro X hP hw hK hc i pins s σ H E I hf st hg
    obtain ⟨⟨old, he⟩, st⟩ := st
    have hel : e < s.heap.objs.size := Heap.lt_size he
    have hit := In.item X hP hw hK hc i pins s σ H I (fun b hb => hf b (List.mem_cons_of_mem _ hb)) st hg
    subst hP hw hK
    refine enum_next hit he hef fun u h₁ tk h' hR hk hz kp ho hT hsz => ?_
    obtain ⟨x, H1, I1, ru, hy, st1, hn⟩ := hR
    refine ⟨_, rfl, wpAny_letOwnedTupleGo_enum (s := { s with heap := h', toks := tk + 1 }) ho fun h'' he' sb => ?_⟩
    have hel1 : e < h₁.objs.size := Nat.lt_of_lt_of_le hel hz
    have hT2 : h''.get? h₁.objs.size = some { cls := .type "tuple", data := .seq #[.int i tk, u] } := (sb.2 _ (Nat.ne_of_gt hel1)).trans hT
    have new : ObjOk X.prog X.w (upd H1 h₁.objs.size (.tup [.int (i : Nat), x])) h'' h₁.objs.size (.tup [.int (i : Nat), x]) :=
      ⟨by show 2 ≤ sizeLine; decide, [.int i tk, u], .cons ⟨_, rfl⟩ (.cons ru .nil), ⟨_, hT2, rfl, _, rfl⟩⟩
    have he1 : H1 e = none := hn e hel (hf e (by simp)).1
    have I2 : Inv X pins σ (upd H1 h₁.objs.size (.tup [.int (i : Nat), x])) { s with heap := h'', toks := tk + 1 } :=
      I1.turnedNew (t' := tk + 1) (ch := [e]) (fun b ob hb q => (sb.2 b (fun z => hb (by simp [z]))).trans (kp b ob (fun z => hb (by simp [z])) q)) (fun b hb => by
        have z : b = e := by simpa using hb
        subst z
        exact ⟨he1, (hf b (by simp)).2⟩) (Nat.le_refl _) new
    have up : ∀ b o, b ≠ e → h₁.get? b = some o → h''.get? b = some o := fun b o hb q => (sb.2 b hb).trans (kp b o hb q)
    refine ⟨.ref h₁.objs.size, _, I2, rfl, ⟨x, H1, h₁.objs.size, hy, rfl, I1.hok.fresh (Nat.le_refl _), rfl⟩, ⟨⟨u, ?_⟩, In.keep _ _ _ st1 fun b hb o q => up b o (fun z => hef (z ▸ hb)) q⟩, fun b hb => ?_⟩
    · have e1 : ((i + 1 : Nat) : Int) = (i : Int) + 1 := by omega
      rw [e1]; exact he'
    · have hb' : b < s.heap.objs.size := by
        rcases List.mem_cons.mp hb with z | z
        · rw [z]; exact hel
        · obtain ⟨o, ho, _⟩ := In.obj i _ st b z
          exact Heap.lt_size ho
      rw [upd_ne (Nat.ne_of_lt (Nat.lt_of_lt_of_le hb' hz))]
      exact hn b hb' (hf b hb).1
  done := by
    intro X hP hw hK hc i pins s σ H E I hf st hg
    obtain ⟨⟨old, he⟩, st⟩ := st
    have hd := In.done X hP hw hK hc i pins s σ H I (fun b hb => hf b (List.mem_cons_of_mem _ hb)) st hg
    subst hP hw hK
    exact enum_done (P0 := fun h' tk => ∀ b o, b ∉ fp → s.heap.get? b = some o → h'.get? b = some o) he (fun E Q k => hd E Q fun h' tk x a b => k h' tk x a b) fun h' tk k => ⟨rfl, I.turnedL (t' := tk) (ch := fp) k fun b hb => hf b (List.mem_cons_of_mem _ hb)⟩
  self := fun A i s Q E st h => let ⟨⟨_, he⟩, _⟩ := st; wpAny_pyIter_enum he h

theorem inner_list {P : Program} {w : World} {K : PySem.W.Frag} (a it : Addr) (hne : a ≠ it) : Inner P w K (Itl K a) [it] it (fun i h => h.IsListIter it a i) where
  obj := fun i h st b hb => by
    have e : b = it := by simpa using hb
    subst e
    obtain ⟨o, e, c, d⟩ := st
    exact ⟨o, e, fun v q => by rw [d] at q; cases q⟩
  keep := fun i h h' st k => st.at fun o e => k it (by simp) o e
  item := by
    intro X hP hw hK hc i pins s σ H I hf st hg E
    subst hP hw hK
    obtain ⟨xs, x, hq, hx⟩ := hg
    obtain ⟨its, rv, p, hz⟩ := I.list hq
    obtain ⟨u, hu, ru⟩ := rv.get hx
    obtain ⟨f0, f1, f2, f3, f4, f5⟩ := hf it (by simp)
    intro Q hQ
    refine wpAny_nextOf_list_item st p.isList (x := u) (by simpa using hu) fun h' st' sb => hQ u h' s.toks ?_ (fun b o hb q => (sb.2 b (by simpa using hb)).trans q) (by rw [sb.1]; exact Nat.le_refl _)
    exact ⟨x, H, I.turned (t' := s.toks) (fun b o hb e => (sb.2 b hb).trans e) f0 f1 f3 f4 f5, ru, ⟨rfl, fun ys hy => by rw [I.list_inj hy hq]; exact hx⟩, st', fun b _ h => h⟩
  done := by
    intro X hP hw hK hc i pins s σ H I hf st hg E Q hE
    subst hP hw hK
    obtain ⟨xs, hq, hx⟩ := hg
    obtain ⟨its, rv, p, hz⟩ := I.list hq
    have hl := rv.length
    exact wpAny_nextOf_list_end (I.ok.hd hc) st p.isList (by simp; omega) fun h' e eb he => hE h' s.toks e he fun b o hb q => eb b o (by simpa using hb) q
theorem inner_tup {P : Program} {w : World} {K : PySem.W.Frag} (a it : Addr) (hne : a ≠ it) : Inner P w K (Itt K a) [it] it (fun i h => h.IsTupleIter it a i) where
  obj := fun i h st b hb => by
    have e : b = it := by simpa using hb
    subst e
    obtain ⟨o, e, c, d⟩ := st
    exact ⟨o, e, fun v q => by rw [d] at q; cases q⟩
  keep := fun i h h' st k => st.at fun o e => k it (by simp) o e
  item := by
    intro X hP hw hK hc i pins s σ H I hf st hg E
    subst hP hw hK
    obtain ⟨xs, x, hq, hx⟩ := hg
    obtain ⟨its, rv, p, hz⟩ := I.tuple hq
    obtain ⟨u, hu, ru⟩ := rv.get hx
    obtain ⟨f0, f1, f2, f3, f4, f5⟩ := hf it (by simp)
    intro Q hQ
    refine wpAny_nextOf_tuple_item st p (x := u) (by simpa using hu) fun h' st' sb => hQ u h' s.toks ?_ (fun b o hb q => (sb.2 b (by simpa using hb)).trans q) (by rw [sb.1]; exact Nat.le_refl _)
    exact ⟨x, H, I.turned (t' := s.toks) (fun b o hb e => (sb.2 b hb).trans e) f0 f1 f3 f4 f5, ru, ⟨rfl, fun ys hy => by rw [I.tuple_inj hy hq]; exact hx⟩, st', fun b _ h => h⟩
  done := by
    intro X hP hw hK hc i pins s σ H I hf st hg E Q hE
    subst hP hw hK
    obtain ⟨xs, hq, hx⟩ := hg
    obtain ⟨its, rv, p, hz⟩ := I.tuple hq
    have hl := rv.length
    exact wpAny_nextOf_tuple_end (I.ok.hd hc) st p (by simp; omega) fun h' e eb he => hE h' s.toks e he fun b o hb q => eb b o (by simpa using hb) q
/-- the same, the end just there where the shorter one ends -/
def ItzS (K : PySem.W.Frag) (a b : Addr) : It := ⟨(Itz K a b).go, (Itz K a b).yld, fun i H => ∃ xs ys : List V, SqL K H a xs ∧ SqL K H b ys ∧ i ≤ xs.length ∧ i ≤ ys.length ∧ (i = xs.length ∨ i = ys.length)⟩
def ItzTS (K : PySem.W.Frag) (a b : Addr) : It := ⟨(RZ.ItzT K a b).go, (RZ.ItzT K a b).yld, fun i H => ∃ xs ys : List V, SqT K H a xs ∧ SqT K H b ys ∧ i ≤ xs.length ∧ i ≤ ys.length ∧ (i = xs.length ∨ i = ys.length)⟩
theorem inner_zipL {P : Program} {w : World} {K : PySem.W.Frag} {a b z TI TO i1 i2 : Addr} (S : ZipSep2 z TI TO i1 i2 [i1, a] [i2, b]) (h1a : a ≠ i1) (h2b : b ≠ i2) : Inner P w K (ItzS K a b) [z, TI, TO, i1, i2] z
    (fun i h => (∃ ow f, ZipAt h z TI TO ow f ∧ OwnOk ow f) ∧ IsTupOf2 h TI (.ref i1) (.ref i2) ∧ (∃ x y, IsTupOf2 h TO x y) ∧ h.IsListIter i1 a i ∧ h.IsListIter i2 b i) where
  obj := fun i h st c hc => by
    obtain ⟨⟨ow, f, hz, _⟩, hTI, ⟨x, y, hTO⟩, ⟨o1, e1, _, d1⟩, ⟨o2, e2, _, d2⟩⟩ := st
    have e' : c = z ∨ c = TI ∨ c = TO ∨ c = i1 ∨ c = i2 := by simpa using hc
    rcases e' with q | q | q | q | q
    · rw [q]; exact ⟨_, hz, fun v q => nomatch q⟩
    · rw [q]; exact ⟨_, hTI, fun v q => nomatch q⟩
    · rw [q]; exact ⟨_, hTO, fun v q => nomatch q⟩
    · rw [q]; exact ⟨o1, e1, fun v q => by rw [d1] at q; cases q⟩
    · rw [q]; exact ⟨o2, e2, fun v q => by rw [d2] at q; cases q⟩
  keep := fun i h h' st k => by
    obtain ⟨⟨ow, f, hz, ho⟩, hTI, ⟨x, y, hTO⟩, h1, h2⟩ := st
    exact ⟨⟨ow, f, k z (by simp) _ hz, ho⟩, k TI (by simp) _ hTI, ⟨x, y, k TO (by simp) _ hTO⟩, h1.at fun o q => k i1 (by simp) o q, h2.at fun o q => k i2 (by simp) o q⟩
  item := by
    intro X hP hw hK hc i pins s σ H I hf st hg E
    subst hP hw hK
    obtain ⟨⟨ow, f, hz, ho⟩, hTI, ⟨x0, y0, hTO⟩, h1, h2⟩ := st
    obtain ⟨xs, ys, x, y, hqx, hqy, hx, hy⟩ := hg
    obtain ⟨its, rv, p, _⟩ := I.list hqx
    obtain ⟨its2, rv2, p2, _⟩ := I.list hqy
    obtain ⟨u, hu, ru⟩ := rv.get hx
    obtain ⟨u2, hu2, ru2⟩ := rv2.get hy
    have lt1 : i < its.toArray.size := by have := (List.getElem?_eq_some_iff.mp hu).1; simpa using this
    have lt2 : i < its2.toArray.size := by have := (List.getElem?_eq_some_iff.mp hu2).1; simpa using this
    have hT : s.TypeIs (.ref z) "zip" := ⟨_, hz, rfl⟩
    intro Q hQ
    unfold Builtin.SmallTypes.nextOf
    refine wpAny_bind (wpAny_callSpecial?_slot (name := Str.ofString "__next__") hT F.slot_zip_next (wpAny_call_entry F.slot_zip_next hT F.entry_zip_next ?_ (F.args_zip_next_1 _)))
    refine zip_step S (Draws.list (A := X.A.in1.in1) (I.ok.hd hc) i1 a h1a its.toArray) (Draws.list (A := X.A.in1.in1) (I.ok.hd hc) i2 b h2b its2.toArray) hz ho hTI hTO ⟨h1, p.isList⟩ ⟨h2, p2.isList⟩ lt1 lt2 fun v1 v2 h' tk q1 q2 hz' hTO' s1 s2 hT' hsz hk => ?_
    refine wpAny_pure (hQ _ h' tk ?_ (fun c o hcn q => hk c o (fun q' => hcn (by simp [q'])) (fun q' => hcn (by simp [q'])) (fun q' => hcn (by simp [q'])) (fun q' => hcn (by simp [q'])) q) (by rw [hsz]; exact Nat.le_succ _))
    have ev1 : v1 = u := by
      have q1 : its.toArray[i]? = some v1 := q1
      simp [hu] at q1; exact q1.symm
    have ev2 : v2 = u2 := by
      have q2 : its2.toArray[i]? = some v2 := q2
      simp [hu2] at q2; exact q2.symm
    subst ev1 ev2
    have new : ObjOk X.prog X.w (upd H s.heap.objs.size (.tup [x, y])) h' s.heap.objs.size (.tup [x, y]) :=
      ⟨by show 2 ≤ sizeLine; decide, [v1, v2], .cons ru (.cons ru2 .nil), ⟨_, hT', rfl, _, rfl⟩⟩
    have I1 : Inv X pins σ (upd H s.heap.objs.size (.tup [x, y])) { s with heap := h', toks := tk } :=
      I.turnedNew (t' := tk) (ch := [z, TI, TO, i1, i2]) (fun c o hb q => hk c o (fun q' => hb (by simp [q'])) (fun q' => hb (by simp [q'])) (fun q' => hb (by simp [q'])) (fun q' => hb (by simp [q'])) q) hf (Nat.le_refl _) new
    refine ⟨.ref s.heap.objs.size, _, I1, rfl, ⟨_, x, y, rfl, I.hok.fresh (Nat.le_refl _), rfl, fun l hl => by rw [I.list_inj hl hqx]; exact hx, fun l hl => by rw [I.list_inj hl hqy]; exact hy⟩, ⟨hz', hk _ _ S.TIz S.TITO S.TIi1 S.TIi2 hTI, hTO', s1.1, s2.1⟩, fun c hlt hn => ?_⟩
    rw [upd_ne (Nat.ne_of_lt hlt)]
    exact hn
  done := by
    intro X hP hw hK hc i pins s σ H I hf st hg E Q hE
    subst hP hw hK
    obtain ⟨⟨ow, f, hz, ho⟩, hTI, ⟨x0, y0, hTO⟩, h1, h2⟩ := st
    obtain ⟨xs, ys, hqx, hqy, he1, he2, hend⟩ := hg
    obtain ⟨its, rv, p, _⟩ := I.list hqx
    obtain ⟨its2, rv2, p2, _⟩ := I.list hqy
    have l1 := rv.length
    have l2 := rv2.length
    have hT : s.TypeIs (.ref z) "zip" := ⟨_, hz, rfl⟩
    unfold Builtin.SmallTypes.nextOf
    refine wpAny_bind (wpAny_callSpecial?_slot (name := Str.ofString "__next__") hT F.slot_zip_next (wpAny_call_entry F.slot_zip_next hT F.entry_zip_next ?_ (F.args_zip_next_1 _)))
    exact zip_end S (Draws.list (A := X.A.in1.in1) (I.ok.hd hc) i1 a h1a its.toArray) (Draws.list (A := X.A.in1.in1) (I.ok.hd hc) i2 b h2b its2.toArray) hz ho hTI hTO ⟨h1, p.isList⟩ ⟨h2, p2.isList⟩ (by simp; omega) (by simp; omega) (by simp; omega) fun h' tk e hk he => hE h' tk e he fun c o hcn q => hk c o (fun q' => hcn (by simp [q'])) (fun q' => hcn (by simp [q'])) (fun q' => hcn (by simp [q'])) (fun q' => hcn (by simp [q'])) q
theorem inner_zipT {P : Program} {w : World} {K : PySem.W.Frag} {a b z TI TO i1 i2 : Addr} (S : ZipSep2 z TI TO i1 i2 [i1, a] [i2, b]) (h1a : a ≠ i1) (h2b : b ≠ i2) : Inner P w K (ItzTS K a b) [z, TI, TO, i1, i2] z
    (fun i h => (∃ ow f, ZipAt h z TI TO ow f ∧ OwnOk ow f) ∧ IsTupOf2 h TI (.ref i1) (.ref i2) ∧ (∃ x y, IsTupOf2 h TO x y) ∧ h.IsTupleIter i1 a i ∧ h.IsTupleIter i2 b i) where
  obj := fun i h st c hc => by
    obtain ⟨⟨ow, f, hz, _⟩, hTI, ⟨x, y, hTO⟩, ⟨o1, e1, _, d1⟩, ⟨o2, e2, _, d2⟩⟩ := st
    have e' : c = z ∨ c = TI ∨ c = TO ∨ c = i1 ∨ c = i2 := by simpa using hc
    rcases e' with q | q | q | q | q
    · rw [q]; exact ⟨_, hz, fun v q => nomatch q⟩
    · rw [q]; exact ⟨_, hTI, fun v q => nomatch q⟩
    · rw [q]; exact ⟨_, hTO, fun v q => nomatch q⟩
    · rw [q]; exact ⟨o1, e1, fun v q => by rw [d1] at q; cases q⟩
    · rw [q]; exact ⟨o2, e2, fun v q => by rw [d2] at q; cases q⟩
  keep := fun i h h' st k => by
    obtain ⟨⟨ow, f, hz, ho⟩, hTI, ⟨x, y, hTO⟩, h1, h2⟩ := st
    exact ⟨⟨ow, f, k z (by simp) _ hz, ho⟩, k TI (by simp) _ hTI, ⟨x, y, k TO (by simp) _ hTO⟩, h1.at fun o q => k i1 (by simp) o q, h2.at fun o q => k i2 (by simp) o q⟩
  item := by
    intro X hP hw hK hc i pins s σ H I hf st hg E
    subst hP hw hK
    obtain ⟨⟨ow, f, hz, ho⟩, hTI, ⟨x0, y0, hTO⟩, h1, h2⟩ := st
    obtain ⟨xs, ys, x, y, hqx, hqy, hx, hy⟩ := hg
    obtain ⟨its, rv, p, _⟩ := I.tuple hqx
    obtain ⟨its2, rv2, p2, _⟩ := I.tuple hqy
    obtain ⟨u, hu, ru⟩ := rv.get hx
    obtain ⟨u2, hu2, ru2⟩ := rv2.get hy
    have lt1 : i < its.toArray.size := by have := (List.getElem?_eq_some_iff.mp hu).1; simpa using this
    have lt2 : i < its2.toArray.size := by have := (List.getElem?_eq_some_iff.mp hu2).1; simpa using this
    have hT : s.TypeIs (.ref z) "zip" := ⟨_, hz, rfl⟩
    intro Q hQ
    unfold Builtin.SmallTypes.nextOf
    refine wpAny_bind (wpAny_callSpecial?_slot (name := Str.ofString "__next__") hT F.slot_zip_next (wpAny_call_entry F.slot_zip_next hT F.entry_zip_next ?_ (F.args_zip_next_1 _)))
    refine zip_step S (Draws.tuple (A := X.A.in1.in1) (I.ok.hd hc) i1 a h1a its.toArray) (Draws.tuple (A := X.A.in1.in1) (I.ok.hd hc) i2 b h2b its2.toArray) hz ho hTI hTO ⟨h1, p⟩ ⟨h2, p2⟩ lt1 lt2 fun v1 v2 h' tk q1 q2 hz' hTO' s1 s2 hT' hsz hk => ?_
    refine wpAny_pure (hQ _ h' tk ?_ (fun c o hcn q => hk c o (fun q' => hcn (by simp [q'])) (fun q' => hcn (by simp [q'])) (fun q' => hcn (by simp [q'])) (fun q' => hcn (by simp [q'])) q) (by rw [hsz]; exact Nat.le_succ _))
    have ev1 : v1 = u := by
      have q1 : its.toArray[i]? = some v1 := q1
      simp [hu] at q1; exact q1.symm
    have ev2 : v2 = u2 := by
      have q2 : its2.toArray[i]? = some v2 := q2
      simp [hu2] at q2; exact q2.symm
    subst ev1 ev2
    have new : ObjOk X.prog X.w (upd H s.heap.objs.size (.tup [x, y])) h' s.heap.objs.size (.tup [x, y]) :=
      ⟨by show 2 ≤ sizeLine; decide, [v1, v2], .cons ru (.cons ru2 .nil), ⟨_, hT', rfl, _, rfl⟩⟩
    have I1 : Inv X pins σ (upd H s.heap.objs.size (.tup [x, y])) { s with heap := h', toks := tk } :=
      I.turnedNew (t' := tk) (ch := [z, TI, TO, i1, i2]) (fun c o hb q => hk c o (fun q' => hb (by simp [q'])) (fun q' => hb (by simp [q'])) (fun q' => hb (by simp [q'])) (fun q' => hb (by simp [q'])) q) hf (Nat.le_refl _) new
    refine ⟨.ref s.heap.objs.size, _, I1, rfl, ⟨_, x, y, rfl, I.hok.fresh (Nat.le_refl _), rfl, fun l hl => by rw [I.tuple_inj hl hqx]; exact hx, fun l hl => by rw [I.tuple_inj hl hqy]; exact hy⟩, ⟨hz', hk _ _ S.TIz S.TITO S.TIi1 S.TIi2 hTI, hTO', s1.1, s2.1⟩, fun c hlt hn => ?_⟩
    rw [upd_ne (Nat.ne_of_lt hlt)]
    exact hn
  done := by
    intro X hP hw hK hc i pins s σ H I hf st hg E Q hE
    subst hP hw hK
    obtain ⟨⟨ow, f, hz, ho⟩, hTI, ⟨x0, y0, hTO⟩, h1, h2⟩ := st
    obtain ⟨xs, ys, hqx, hqy, he1, he2, hend⟩ := hg
    obtain ⟨its, rv, p, _⟩ := I.tuple hqx
    obtain ⟨its2, rv2, p2, _⟩ := I.tuple hqy
    have l1 := rv.length
    have l2 := rv2.length
    have hT : s.TypeIs (.ref z) "zip" := ⟨_, hz, rfl⟩
    unfold Builtin.SmallTypes.nextOf
    refine wpAny_bind (wpAny_callSpecial?_slot (name := Str.ofString "__next__") hT F.slot_zip_next (wpAny_call_entry F.slot_zip_next hT F.entry_zip_next ?_ (F.args_zip_next_1 _)))
    exact zip_end S (Draws.tuple (A := X.A.in1.in1) (I.ok.hd hc) i1 a h1a its.toArray) (Draws.tuple (A := X.A.in1.in1) (I.ok.hd hc) i2 b h2b its2.toArray) hz ho hTI hTO ⟨h1, p⟩ ⟨h2, p2⟩ (by simp; omega) (by simp; omega) (by simp; omega) fun h' tk e hk he => hE h' tk e he fun c o hcn q => hk c o (fun q' => hcn (by simp [q'])) (fun q' => hcn (by simp [q'])) (fun q' => hcn (by simp [q'])) (fun q' => hcn (by simp [q'])) q
end TW

end
section
namespace TW
open PySem PySem.Spec PyProof.Rows L2
def iEnumA (K : PySem.W.Frag) (ta : TA) : TI := fun σ H R => ta σ H fun vs H1 => ∃ (a : Addr) (xs : List V), vs = [.ref a] ∧ ((SqL K H1 a xs ∧ R (ItE (Itl K a)) H1) ∨ (SqT K H1 a xs ∧ R (ItE (Itt K a)) H1))
section
variable {X : Cx}
theorem fresh_fp {pins : List (Addr × Obj)} {σ : L2.St} {H : Hp} {s : Shared} (I : Inv X pins σ H s) {b : Addr} (h : s.heap.objs.size ≤ b) : FpOk X pins H b := I.fpOk h (I.hok.fresh h)
theorem pi_enumA {e : Expr} {ta : TA} {p pos tpos : Pos} {elts : List Expr} {kk : Nat} (hg : Gl X "enumerate") (hm : X.mg "enumerate" = none) (ha : PA X [e] ta) (hs : starEach [e] X.env = [(false, eval e X.env)] := by rfl) :
    PI X (.Tuple elts kk tpos) (.Call (.Name "enumerate" p) [e] [] pos) (iEnumA X.K ta) := by
  refine ⟨fun pins s σ H R I h => ?_⟩
  refine Call_ (ld_blt I hg hm boot_enumerate (PyProof.Rows.callWith_type1 (thn (ha.run pos pins s σ H _ I h) fun us s1 ⟨vs, H1, I1, r1, q1⟩ => ?_) hs rfl))
  obtain ⟨a, xs, ex, q⟩ := q1
  subst ex
  cases r1 with
  | cons r rr =>
    cases rr
    cases r
    rcases q with ⟨hq, q⟩ | ⟨hq, q⟩
    · obtain ⟨its, rv, p', hz⟩ := I1.list hq
      have hl : s1.heap.IsList a its.toArray := p'.isList
      have la : a < s1.heap.objs.size := by obtain ⟨_, e, _⟩ := hl; exact Heap.lt_size e
      have sz : (s1.heap.push { cls := .type "list_iterator", data := .fields #[.ref a, .int 0 0] }).objs.size = s1.heap.objs.size + 1 := Heap.size_push ..
      refine call_enumG (it := s1.heap.objs.size) (hp' := s1.heap.push { cls := .type "list_iterator", data := .fields #[.ref a, .int 0 0] }) (fun P w A E s2 Q e q => ?_) fun h' he hz' hk => wpAny_pyIter_enum he ?_
      · have q' : Q (.ref s2.heap.objs.size) { s2 with heap := s2.heap.push { cls := .type "list_iterator", data := .fields #[.ref a, .int 0 0] } } := by rw [e]; exact q
        exact wpAny_pyIter_list (by rw [e]; exact hl) q'
      rw [sz] at he ⊢
      have I2 : Inv X pins σ H1 { s1 with heap := h' } := I1.kept (t' := s1.toks) fun b o x => hk b o (Heap.get?_push_of_some _ x)
      refine ⟨s1.heap.objs.size + 1, [s1.heap.objs.size + 1, s1.heap.objs.size], _, _, H1, rfl, I2, turn_enumG (inner_list a s1.heap.objs.size (Nat.ne_of_lt la)) (by simp), ⟨⟨.none, he⟩, ⟨_, hk _ _ (Heap.get?_push_size _ rfl), rfl, rfl⟩⟩, fun b hb => ?_, q⟩
      have e' : b = s1.heap.objs.size + 1 ∨ b = s1.heap.objs.size := by simpa using hb
      exact fresh_fp I1 (by rcases e' with z | z <;> rw [z] <;> first | exact Nat.le_add_right _ _ | exact Nat.le_refl _)
    · obtain ⟨its, rv, p', hz⟩ := I1.tuple hq
      have hl : s1.heap.IsTuple a its.toArray := p'
      have la : a < s1.heap.objs.size := by obtain ⟨_, e, _⟩ := hl; exact Heap.lt_size e
      have sz : (s1.heap.push { cls := .type "tuple_iterator", data := .fields #[.ref a, .int 0 0] }).objs.size = s1.heap.objs.size + 1 := Heap.size_push ..
      refine call_enumG (it := s1.heap.objs.size) (hp' := s1.heap.push { cls := .type "tuple_iterator", data := .fields #[.ref a, .int 0 0] }) (fun P w A E s2 Q e q => ?_) fun h' he hz' hk => wpAny_pyIter_enum he ?_
      · have q' : Q (.ref s2.heap.objs.size) { s2 with heap := s2.heap.push { cls := .type "tuple_iterator", data := .fields #[.ref a, .int 0 0] } } := by rw [e]; exact q
        exact wpAny_pyIter_tuple (by rw [e]; exact hl) q'
      rw [sz] at he ⊢
      have I2 : Inv X pins σ H1 { s1 with heap := h' } := I1.kept (t' := s1.toks) fun b o x => hk b o (Heap.get?_push_of_some _ x)
      refine ⟨s1.heap.objs.size + 1, [s1.heap.objs.size + 1, s1.heap.objs.size], _, _, H1, rfl, I2, turn_enumG (inner_tup a s1.heap.objs.size (Nat.ne_of_lt la)) (by simp), ⟨⟨.none, he⟩, ⟨_, hk _ _ (Heap.get?_push_size _ rfl), rfl, rfl⟩⟩, fun b hb => ?_, q⟩
      have e' : b = s1.heap.objs.size + 1 ∨ b = s1.heap.objs.size := by simpa using hb
      exact fresh_fp I1 (by rcases e' with z | z <;> rw [z] <;> first | exact Nat.le_add_right _ _ | exact Nat.le_refl _)
def iEnumZ (K : PySem.W.Frag) (ta : TA) : TI := fun σ H R => ta σ H fun vs H1 => ∃ (a b : Addr) (xs ys : List V), vs = [.ref a, .ref b] ∧ ((SqL K H1 a xs ∧ SqL K H1 b ys ∧ R (ItE (ItzS K a b)) H1) ∨ (SqT K H1 a xs ∧ SqT K H1 b ys ∧ R (ItE (ItzTS K a b)) H1))
theorem zip_iterTo {z TI TO : Addr} {f0 : Value} {hp : Heap} (hz : IsZip hp z TI TO f0) : IterTo (.ref z) hp z hp := fun P w A E s2 Q e q => by
  subst e
  exact wpAny_pyIter_zip hz q
theorem pi_enumZ {e e2 : Expr} {ta : TA} {p p3 pos pos2 tpos : Pos} {elts : List Expr} {kk : Nat} (hg : Gl X "enumerate") (hm : X.mg "enumerate" = none) (hg2 : Gl X "zip") (hm2 : X.mg "zip" = none) (ha : PA X [e, e2] ta)
    (hs1 : starEach [.Call (.Name "zip" p3) [e, e2] [] pos2] X.env = (false, eval (.Call (.Name "zip" p3) [e, e2] [] pos2) X.env) :: starEach [] X.env := by rfl)
    (hs : starEach [e, e2] X.env = (false, eval e X.env) :: starEach [e2] X.env := by rfl) (hpl : (backTo pos2 (starEach [e2] X.env)).any (·.1) = false := by rfl) :
    PI X (.Tuple elts kk tpos) (.Call (.Name "enumerate" p) [.Call (.Name "zip" p3) [e, e2] [] pos2] [] pos) (iEnumZ X.K ta) := by
  refine ⟨fun pins s σ H R I h => ?_⟩
  refine Call_ (ld_blt I hg hm boot_enumerate (PyProof.Rows.callWith_type1 ?_ hs1 rfl))
  rw [hs1]
  show wpAny _ _ (spliced ((false, eval (.Call (.Name "zip" p3) [e, e2] [] pos2) X.env) :: backTo pos (starEach [] X.env))) _ _ s
  refine Calls.spliced_cons ?_
  refine Call_ (ld_blt I hg2 hm2 PyProof.Rows.boot_zip (PyProof.Rows.callWith_type1 (thn (ha.run pos2 pins s σ H _ I h) fun us s1 ⟨vs, H1, I1, r1, q1⟩ => ?_) hs hpl))
  obtain ⟨a, b, xs, ys, ex, q1⟩ := q1
  subst ex
  cases r1 with
  | cons r rr =>
    cases rr with
    | cons r' rr =>
      cases rr
      cases r
      cases r'
      have fresh6 : ∀ c, c ∈ [s1.heap.objs.size + 5, s1.heap.objs.size + 4, s1.heap.objs.size + 2, s1.heap.objs.size + 3, s1.heap.objs.size, s1.heap.objs.size + 1] → FpOk X pins H1 c := fun c hcm => by
        have e' : c = s1.heap.objs.size + 5 ∨ c = s1.heap.objs.size + 4 ∨ c = s1.heap.objs.size + 2 ∨ c = s1.heap.objs.size + 3 ∨ c = s1.heap.objs.size ∨ c = s1.heap.objs.size + 1 := by simpa using hcm
        exact fresh_fp I1 (by rcases e' with z | z | z | z | z | z <;> rw [z] <;> first | exact Nat.le_add_right _ _ | exact Nat.le_refl _)
      rcases q1 with ⟨hqx, hqy, q⟩ | ⟨hqx, hqy, q⟩
      · obtain ⟨its, rv, p1, _⟩ := I1.list hqx
        obtain ⟨its2, rv2, p2, _⟩ := I1.list hqy
        refine call_zip_2 p1.isList p2.isList fun h' hz hTI hTO h1 h2 hsz hk => ?_
        refine Calls.spliced_nil ?_
        have I2 : Inv X pins σ H1 { s1 with heap := h' } := I1.kept (t' := s1.toks) hk
        refine call_enumG (s := { s1 with heap := h' }) (zip_iterTo hz) fun h'' he hz2 hk2 => wpAny_pyIter_enum he ?_
        have hsz : h'.objs.size = s1.heap.objs.size + 5 := hsz
        replace hk2 : ∀ b o, h'.get? b = some o → h''.get? b = some o := hk2
        rw [hsz] at he ⊢
        have I3 : Inv X pins σ H1 { s1 with heap := h'' } := I2.kept (t' := s1.toks) hk2
        exact ⟨s1.heap.objs.size + 5, _, _, _, H1, rfl, I3, turn_enumG (inner_zipL (z := s1.heap.objs.size + 4) (TI := s1.heap.objs.size + 2) (TO := s1.heap.objs.size + 3) (i1 := s1.heap.objs.size) (i2 := s1.heap.objs.size + 1) (zip_sep2 (fun c hc => by rw [List.mem_singleton.mp hc]; exact p1.lt) (fun c hc => by rw [List.mem_singleton.mp hc]; exact p2.lt)) (Nat.ne_of_lt p1.lt) (Nat.ne_of_lt (Nat.lt_succ_of_lt p2.lt))) (by simp),
          ⟨⟨.none, he⟩, ⟨.none, .bool false, hk2 _ _ hz, .inl ⟨rfl, rfl⟩⟩, hk2 _ _ hTI, ⟨_, _, hk2 _ _ hTO⟩, h1.at fun o e => hk2 _ o e, h2.at fun o e => hk2 _ o e⟩, fresh6, q⟩
      · obtain ⟨its, rv, p1, _⟩ := I1.tuple hqx
        obtain ⟨its2, rv2, p2, _⟩ := I1.tuple hqy
        have lt1 : a < s1.heap.objs.size := by obtain ⟨o, ho, _⟩ := id p1; exact Heap.lt_size ho
        have lt2 : b < s1.heap.objs.size := by obtain ⟨o, ho, _⟩ := id p2; exact Heap.lt_size ho
        refine RZ.call_zipT (show s1.heap.IsTuple a its.toArray from p1) (show s1.heap.IsTuple b its2.toArray from p2) fun h' hz hTI hTO h1 h2 hsz hk => ?_
        refine Calls.spliced_nil ?_
        have I2 : Inv X pins σ H1 { s1 with heap := h' } := I1.kept (t' := s1.toks) hk
        refine call_enumG (s := { s1 with heap := h' }) (zip_iterTo hz) fun h'' he hz2 hk2 => wpAny_pyIter_enum he ?_
        have hsz : h'.objs.size = s1.heap.objs.size + 5 := hsz
        replace hk2 : ∀ b o, h'.get? b = some o → h''.get? b = some o := hk2
        rw [hsz] at he ⊢
        have I3 : Inv X pins σ H1 { s1 with heap := h'' } := I2.kept (t' := s1.toks) hk2
        exact ⟨s1.heap.objs.size + 5, _, _, _, H1, rfl, I3, turn_enumG (inner_zipT (z := s1.heap.objs.size + 4) (TI := s1.heap.objs.size + 2) (TO := s1.heap.objs.size + 3) (i1 := s1.heap.objs.size) (i2 := s1.heap.objs.size + 1) (zip_sep2 (fun c hc => by rw [List.mem_singleton.mp hc]; exact lt1) (fun c hc => by rw [List.mem_singleton.mp hc]; exact lt2)) (Nat.ne_of_lt lt1) (Nat.ne_of_lt (Nat.lt_succ_of_lt lt2))) (by simp),
          ⟨⟨.none, he⟩, ⟨.none, .bool false, hk2 _ _ hz, .inl ⟨rfl, rfl⟩⟩, hk2 _ _ hTI, ⟨_, _, hk2 _ _ hTO⟩, h1.at fun o e => hk2 _ o e, h2.at fun o e => hk2 _ o e⟩, fresh6, q⟩
end

/-! ### what is walked, as data -/
theorem it_enumG {K : PySem.W.Frag} {G : Hp} {ds : List PyData} {J : It} (ok : ItOk K G ds J) : ItOk K G (enumD ds) (ItE J) where
  go := fun i H e hi => ok.go i H e (by simpa [enumD] using hi)
  stop := fun H e => by
    have q := ok.stop H e
    have l : (enumD ds).length = ds.length := by simp [enumD]
    rw [l]
    exact q
  yld := fun i H v H' G1 e1 e2 hi y => by
    have hi : i < ds.length := by simpa [enumD] using hi
    obtain ⟨x, H1, T, y, rfl, hT, rfl⟩ := y
    obtain ⟨d, G2, hd, gr, rv⟩ := ok.yld i H x H1 G1 e1 e2 hi y
    obtain ⟨g, rv2⟩ := pair_yld gr.gh hT (show Rv K G2 (.int (i : Nat)) (.int (i : Nat)) from rfl) rv
    exact ⟨.tuple [.int (i : Nat), d], _, by simp [enumD, hd], gr.trans g, rv2⟩
theorem it_zipS {K : PySem.W.Frag} {G : Hp} {a b : Addr} {xs ys : List V} {ds es : List PyData} (h : G a = some (HO.lst xs)) (h' : G b = some (HO.lst ys)) (v : RvA K G ds xs) (w : RvA K G es ys) : ItOk K G ((ds.zip es).map fun p => .tuple [p.1, p.2]) (ItzS K a b) where
  go := (it_zip h h' v w).go
  stop := fun H e => ⟨xs, ys, same_l e h, same_l e h', by rw [v.len]; simp; omega, by rw [w.len]; simp; omega, by rw [v.len, w.len]; simp; omega⟩
  yld := (it_zip h h' v w).yld
theorem it_zipTS {K : PySem.W.Frag} {G : Hp} {a b : Addr} {xs ys : List V} {ds es : List PyData} (h : SqT K G a xs) (h' : SqT K G b ys) (v : RvA K G ds xs) (w : RvA K G es ys) : ItOk K G ((ds.zip es).map fun p => .tuple [p.1, p.2]) (ItzTS K a b) where
  go := (it_zipT h h' v w).go
  stop := fun H e => ⟨xs, ys, same_t e h, same_t e h', by rw [v.len]; simp; omega, by rw [w.len]; simp; omega, by rw [v.len, w.len]; simp; omega⟩
  yld := (it_zipT h h' v w).yld
def iEnum : List PyData → M (List PyData)
  | [.list xs] => .ret (enumD xs)
  | [.tuple xs] => .ret (enumD xs)
  | _ => .st
def iEnZip : List PyData → M (List PyData)
  | [.list xs, .list ys] => .ret (enumD ((xs.zip ys).map fun p => .tuple [p.1, p.2]))
  | [.tuple xs, .tuple ys] => .ret (enumD ((xs.zip ys).map fun p => .tuple [p.1, p.2]))
  | _ => .st
section
variable {X : Cx} {TG : TGx} {W : WX} {e e2 : Expr} {r : M (List Arg)} {p p3 pos pos2 tpos : Pos} {elts : List Expr} {kk : Nat}
theorem di_enum (hg : Gl X "enumerate") (hm : X.mg "enumerate" = none) (ha : DA X TG W [e] r) (hs : starEach [e] X.env = [(false, eval e X.env)] := by rfl) :
    DI X TG W (.Tuple elts kk tpos) (.Call (.Name "enumerate" p) [e] [] pos) (aBind r iEnum) := PI_imp (pi_enumA hg hm ha hs) fun s H R q => by
  obtain ⟨B, F, G0, G, z, i, p⟩ := rdI_args q
  refine ⟨B, F, G0, G, z, i, post_imp (fun xs H1 q => ?_) _ p⟩
  obtain ⟨B, F, G0, G1, r1, ds, i1, v1, p1⟩ := q
  unfold iEnum at p1
  split at p1
  · obtain ⟨x, r, rfl, v2, v4⟩ := v1
    obtain ⟨a, xs, rfl, a1, a2⟩ := v2
    cases v4
    exact ⟨a, xs, rfl, .inl ⟨same_l i1.gh a1, p1 G1 H1 _ (.refl _) i1 (it_enumG (it_list a1 a2))⟩⟩
  · obtain ⟨x, r, rfl, v2, v4⟩ := v1
    obtain ⟨a, xs, rfl, a1, a2⟩ := v2
    cases v4
    exact ⟨a, xs, rfl, .inr ⟨same_t i1.gh a1, p1 G1 H1 _ (.refl _) i1 (it_enumG (it_tup a1 a2))⟩⟩
  · exact p1.elim
theorem di_enzip (hg : Gl X "enumerate") (hm : X.mg "enumerate" = none) (hg2 : Gl X "zip") (hm2 : X.mg "zip" = none) (ha : DA X TG W [e, e2] r) 
    (hs1 : starEach [.Call (.Name "zip" p3) [e, e2] [] pos2] X.env = (false, eval (.Call (.Name "zip" p3) [e, e2] [] pos2) X.env) :: starEach [] X.env := by rfl)
    (hs : starEach [e, e2] X.env = (false, eval e X.env) :: starEach [e2] X.env := by rfl) (hpl : (backTo pos2 (starEach [e2] X.env)).any (·.1) = false := by rfl) :
    DI X TG W (.Tuple elts kk tpos) (.Call (.Name "enumerate" p) [.Call (.Name "zip" p3) [e, e2] [] pos2] [] pos) (aBind r iEnZip) := PI_imp (pi_enumZ hg hm hg2 hm2 ha hs1 hs hpl) fun s H R q => by
  obtain ⟨B, F, G0, G, z, i, p⟩ := rdI_args q
  refine ⟨B, F, G0, G, z, i, post_imp (fun xs H1 q => ?_) _ p⟩
  obtain ⟨B, F, G0, G1, r1, ds, i1, v1, p1⟩ := q
  unfold iEnZip at p1
  split at p1
  · obtain ⟨x, r, rfl, v2, y, r', rfl, v3, v4⟩ := v1
    obtain ⟨a, xs, rfl, a1, a2⟩ := v2
    obtain ⟨b, ys, rfl, b1, b2⟩ := v3
    cases v4
    exact ⟨a, b, xs, ys, rfl, .inl ⟨same_l i1.gh a1, same_l i1.gh b1, p1 G1 H1 _ (.refl _) i1 (it_enumG (it_zipS a1 b1 a2 b2))⟩⟩
  · obtain ⟨x, r, rfl, v2, y, r', rfl, v3, v4⟩ := v1
    obtain ⟨a, xs, rfl, a1, a2⟩ := v2
    obtain ⟨b, ys, rfl, b1, b2⟩ := v3
    cases v4
    exact ⟨a, b, xs, ys, rfl, .inr ⟨same_t i1.gh a1, same_t i1.gh b1, p1 G1 H1 _ (.refl _) i1 (it_enumG (it_zipTS a1 b1 a2 b2))⟩⟩
  · exact p1.elim
end
end TW

end
section
/-! dict displays with text keys, d.get(k, x), as values that no one changes. -/
namespace TW
open PySem PySem.Spec PyProof.Rows L2
section
variable {K : PySem.W.Frag} {TG : TGx} {B : List (Nat × Addr)} {F G0 G H : Hp} {r : List Sl} {s : L2.St} {D : Addr} {o o' : HO}
theorem SR.holdO (i : SR K TG B F G0 G H r s) (hD : H D = none) (ho : ∀ ps, o ≠ .tbl ps) : SR K TG B (upd F D o) G0 G (upd H D o) r s := by
  have gD := none_sub i.gh hD
  refine ⟨i.len, i.gh.trans (same_new hD), fun b u q => ?_, i.g0, fun b u q => ?_, i.gt, fun b ps q => ?_, fun P hP => tab_same (same_new hD) (i.tb P hP), i.vals, fun j ds q => ?_, i.sep, i.ios, i.evs⟩
  · by_cases z : b = D
    · subst z; rw [upd_same] at q ⊢; exact q
    · rw [upd_ne z] at q ⊢; exact i.fh _ _ q
  · have z : b ≠ D := fun e => by subst e; rw [gD] at q; cases q
    rw [upd_ne z]
    exact i.fg b u q
  · by_cases z : b = D
    · subst z; rw [upd_same] at q; cases q; exact ho ps rfl
    · rw [upd_ne z] at q; exact i.ft _ _ q
  · obtain ⟨a, xs, h1, h2, h3, h4, h5⟩ := i.owns j ds q
    have z : a ≠ D := fun e => by subst e; rw [hD] at h2; cases h2
    exact ⟨a, xs, h1, by rw [upd_ne z]; exact h2, h3, h4, by rw [upd_ne z]; exact h5⟩
theorem SR.heldO (i : SR K TG B (upd F D o) G0 G H r s) (gD : G D = none) (h1 : ∀ ps, o ≠ .tbl ps) (h2 : ∀ ps, o' ≠ .tbl ps) (h1c : ∀ q, o ≠ LamX.CodeO D q) : SR K TG B (upd F D o') G0 G (upd H D o') r s := by
  have hD : H D = some o := i.fh _ _ upd_same
  refine ⟨i.len, fun b u q => ?_, fun b u q => ?_, i.g0, fun b u q => ?_, i.gt, fun b ps q => ?_, fun P hP => ?_, i.vals, fun j ds q => ?_, i.sep, i.ios, i.evs⟩
  · have z : b ≠ D := fun e => by subst e; rw [gD] at q; cases q
    rw [upd_ne z]
    exact i.gh _ _ q
  · by_cases z : b = D
    · subst z; rw [upd_same] at q ⊢; exact q
    · rw [upd_ne z] at q ⊢; exact i.fh _ _ (by rw [upd_ne z]; exact q)
  · have z : b ≠ D := fun e => by subst e; rw [gD] at q; cases q
    have := i.fg b u q
    rwa [upd_ne z] at this ⊢
  · by_cases z : b = D
    · subst z; rw [upd_same] at q; cases q; exact h2 ps rfl
    · rw [upd_ne z] at q; exact i.ft b ps (by rw [upd_ne z]; exact q)
  · exact (i.tb P hP).upd hD h1 h1c
  · obtain ⟨a, zs, h1, h2, h3, h4, h5⟩ := i.owns j ds q
    have z : a ≠ D := fun e => by subst e; rw [upd_same] at h5; cases h5
    rw [upd_ne z] at h5
    exact ⟨a, zs, h1, by rw [upd_ne z]; exact h2, h3, h4, by rw [upd_ne z]; exact h5⟩
theorem SR.looseO (i : SR K TG B (upd F D o) G0 G H r s) (fD : F D = none) : SR K TG B F G0 G H r s := by
  have sub : ∀ b u, F b = some u → upd F D o b = some u := fun b u q => by
    rw [upd_ne (ne_of_none q fD)]
    exact q
  refine ⟨i.len, i.gh, fun b u q => i.fh _ _ (sub b u q), i.g0, fun b u q => ?_, i.gt, fun b ps q => i.ft b ps (sub _ _ q), i.tb, i.vals, fun j ds q => ?_, i.sep, i.ios, i.evs⟩
  · refine (i.fg b u q).imp (fun z => ?_) id
    cases w : F b with
    | none => rfl
    | some y => rw [sub b y w] at z; cases z
  · obtain ⟨a, zs, h1, h2, h3, h4, h5⟩ := i.owns j ds q
    refine ⟨a, zs, h1, h2, h3, h4, ?_⟩
    cases w : F a with
    | none => rfl
    | some y => rw [sub a y w] at h5; cases h5
theorem SR.gnoneO (i : SR K TG B (upd F D o) G0 G H r s) (h0 : G0 D = none) : G D = none := by
  cases q : G D with
  | none => rfl
  | some u =>
    rcases i.fg D u q with z | z
    · rw [upd_same] at z; cases z
    · rw [h0] at z; cases z
/-- what is no list and no table, put into the values' part -/
theorem SR.putG (i : SR K TG B F G0 G H r s) (hH : H D = some o) (gD : G D = none) (fD : F D = none) (h1 : ∀ ps, o ≠ .tbl ps) (h2 : ∀ (j : Nat) (w : Ow), r[j]?.bind Sl.own = some w → s[j]? ≠ some (some (V.ref D))) : Same G (upd G D o) ∧ SR K TG B F G0 (upd G D o) H r s := by
  have sg : Same G (upd G D o) := same_new gD
  refine ⟨sg, i.len, fun b u q => ?_, i.fh, i.g0.trans sg, fun b u q => ?_, fun b ps q => ?_, i.ft, i.tb, fun j d q => ?_, fun j ds q => ?_, i.sep, i.ios, fun k e q => let ⟨z, e1, e2, e3⟩ := i.evs k e q; ⟨z, e1, e2, e3.mono sg⟩⟩
  · by_cases z : b = D
    · subst z; rw [upd_same] at q; cases q; exact hH
    · rw [upd_ne z] at q; exact i.gh _ _ q
  · by_cases z : b = D
    · subst z; exact .inl fD
    · rw [upd_ne z] at q; exact i.fg b u q
  · by_cases z : b = D
    · subst z; rw [upd_same] at q; cases q; exact h1 ps rfl
    · rw [upd_ne z] at q; exact i.gt b ps q
  · obtain ⟨v, a, b⟩ := i.vals j d q
    exact ⟨v, a, Rv.mono sg _ _ b⟩
  · obtain ⟨a, xs, k1, k2, k3, k4, k5⟩ := i.owns j ds q
    refine ⟨a, xs, k1, k2, k3.mono sg, ?_, k5⟩
    have z : a ≠ D := fun e => h2 j ds q (by rw [← e]; exact k1)
    rw [upd_ne z]
    exact k4
end

/-! ### {'a': e, ..} -/
def RPs (K : PySem.W.Frag) (ks : List Str) : RL (List PyData) (List (V × V)) := fun G ds ps => ∃ vs, ps = (ks.zip vs).map (fun p => (V.str p.1, p.2)) ∧ vs.length = ks.length ∧ RvA K G ds vs
def DPs (X : Cx) (TG : TGx) (W : WX) (pos : Pos) (keys : List (Option Expr)) (values : List Expr) (ks : List Str) (r : M (List PyData)) : Prop :=
  ∃ trs, PPs X pos keys values trs ∧ ∀ s H Q, rd X.K TG W (RPs X.K ks) r s H Q → tPairs trs s H Q
def psNil : M (List PyData) := .ret []
def psCons (d : M PyData) (r : M (List PyData)) : M (List PyData) := d.bind fun x => r.bind fun xs => .ret (x :: xs)
section
variable {X : Cx} {TG : TGx} {W : WX} {pos : Pos} {keys : List (Option Expr)} {values : List Expr} {ks : List Str} {r : M (List PyData)}
theorem dps_nil : DPs X TG W pos [] [] [] psNil := ⟨[], pps_nil, fun s H Q h => rd_ret (b := ([] : List (V × V))) (R := RPs X.K []) h fun _ => ⟨[], rfl, rfl, rfl⟩⟩
theorem dps_cons {v : Expr} {d : M PyData} {k : Str} {kj : Nat} {kp : Pos} (hv : DE X TG W v d) (hr : DPs X TG W pos keys values ks r) : DPs X TG W pos (some (.Constant (.str k) kj kp) :: keys) (v :: values) (k :: ks) (psCons d r) := by
  obtain ⟨trs, h1, h2⟩ := hr
  refine ⟨_, pps_cons pe_str hv h1, fun s H Q h => ?_⟩
  obtain ⟨B, F, G0, G, z, i, p⟩ := rd_bind (R1 := RE X.K) h
  refine ⟨B, F, G0, G, z, i, post_imp (fun x H1 q => h2 s H1 _ ?_) _ p⟩
  obtain ⟨B, F, G0, G1, r1, a, i1, v1, p1⟩ := q
  refine ⟨B, F, G0, G1, r1, i1, post_imp (fun xs H2 q => ?_) _ (post_bind (R1 := RPs X.K ks) _ p1)⟩
  obtain ⟨G2, r2, as, e2, i2, ⟨vs, rfl, l, v2⟩, p2⟩ := q
  exact p2 G2 H2 _ (.refl _) i2 ⟨x :: vs, rfl, by simp [l], x, vs, rfl, Rv.mono e2 _ _ v1, v2⟩
def dDisp (ks : List Str) (r : M (List PyData)) : M PyData := r.bind fun vs => .ret (.dict ((ks.zip vs).map fun p => (.str p.1, p.2)))
theorem mergeK_new : ∀ {more kvs : List (Key × V)}, ((kvs ++ more).map (·.1)).Nodup → mergeK kvs more = kvs ++ more
  | [], kvs, _ => by simp [mergeK]
  | p :: more, kvs, h => by
    have h1 : ∀ q ∈ kvs, q.1 ≠ p.1 := fun q hq e => by
      rw [List.map_append, List.nodup_append] at h
      exact h.2.2 _ (List.mem_map.mpr ⟨q, hq, rfl⟩) _ (List.mem_map.mpr ⟨p, List.mem_cons_self, rfl⟩) e
    have e1 : putK kvs p.1 p.2 = kvs ++ [p] := by
      unfold putK
      rw [if_neg]
      intro c
      obtain ⟨q, hq, e⟩ := List.any_eq_true.mp c
      exact h1 q hq (of_decide_eq_true e)
    show mergeK (putK kvs p.1 p.2) more = _
    rw [e1, mergeK_new (by simpa using h)]
    simp
theorem rvD_zip {K : PySem.W.Frag} {G : Hp} : ∀ {ks : List Str} {ds : List PyData} {vs : List V}, vs.length = ks.length → RvA K G ds vs → RvD K G ((ks.zip ds).map fun p => (.str p.1, p.2)) ((ks.zip vs).map fun p => ((.inr p.1 : Key), p.2))
  | [], _, _, _, _ => rfl
  | k :: ks, [], vs, l, h => by cases h; simp at l
  | k :: ks, d :: ds, _, l, ⟨x, r, e, h2, h3⟩ => by
    subst e
    exact ⟨_, _, rfl, ⟨rfl, h2⟩, rvD_zip (by simpa using l) h3⟩
theorem de_disp (h : DPs X TG W pos keys values ks r) (hall : keys.all (·.isSome) = true) (hl : keys.length = values.length) (h0 : keys ≠ []) (h15 : keys.length ≤ 15) (hk : ks.length = keys.length) (nd : ks.Nodup) : DE X TG W (.Dict keys values pos) (dDisp ks r) := by
  obtain ⟨trs, h1, h2⟩ := h
  refine PE_imp (pe_disp h1 hall hl h0 h15) fun s H Q q => ?_
  intro p hp
  obtain ⟨B, F, G0, G, z, i, pp⟩ := q
  have fD : F p = none := none_sub i.fh hp
  have gD : G p = none := none_sub i.gh hp
  have g0D : G0 p = none := none_sub i.g0 gD
  have ih := i.holdO (o := .dK []) hp (fun _ e => by cases e)
  refine h2 s _ _ ⟨B, _, G0, G, z, ih, ?_⟩
  unfold dDisp M.bind at pp
  cases hr : r z with
  | st => rw [hr] at pp; exact pp
  | ex x r1 => rw [hr] at pp; exact fun G' H' c dx e' i' => pp G' H' c dx e' (i'.looseO fD)
  | ok vs r1 =>
    rw [hr] at pp
    rintro G' H' ps e' i' ⟨vs', rfl, l, rv⟩
    have gD' := i'.gnoneO g0D
    have hD' : H' p = some (.dK []) := i'.fh _ _ upd_same
    let kvs : List (Key × V) := (ks.zip vs').map fun p => ((.inr p.1 : Key), p.2)
    have nk : (kvs.map (·.1)).Nodup := by
      have e : kvs.map (·.1) = ks.map (fun k => (.inr k : Key)) := by
        show ((ks.zip vs').map _).map _ = _
        rw [List.map_map]
        have e2 : ks = (ks.zip vs').map Prod.fst := (List.map_fst_zip (by omega)).symm
        conv => rhs; rw [e2]
        rw [List.map_map]
        rfl
      rw [e]
      exact List.Pairwise.map _ (fun a b h e => h (by cases e; rfl)) nd
    have em : mergeK [] kvs = kvs := by rw [mergeK_new (by simpa using nk)]; simp
    refine ⟨hD', kvs, ?_, ?_, ?_⟩
    · show (ks.zip vs').map _ = ((ks.zip vs').map _).map _
      rw [List.map_map]
      rfl
    · show ((ks.zip vs').map _).length ≤ 15
      rw [List.length_map, List.length_zip]
      omega
    · rw [em]
      have i2 := (i'.heldO (o' := .dK kvs) gD' (fun _ e => by cases e) (fun _ e => by cases e) (fun _ => codeO_dK)).looseO fD
      obtain ⟨sg, i3⟩ := i2.putG (D := p) (o := .dK kvs) upd_same gD' fD (fun _ e => by cases e) (fun j w q z => by
        obtain ⟨a, o, k1, _, _, _, k5⟩ := i'.owns j w q
        rw [z] at k1
        cases k1
        rw [upd_same] at k5
        cases k5)
      exact pp _ _ _ (e'.trans sg) i3 (.inr (.inl ⟨p, kvs, rfl, upd_same, rvD_zip l (RvA.mono sg _ _ rv)⟩))
end

/-! ### d.get(k, x) -/
def isKd (kvs : List (PyData × PyData)) : Bool := kvs.all fun kv => (keyD kv.1).isSome
def getK (kvs : List (PyData × PyData)) (k : Key) : Option PyData := (kvs.find? fun kv => decide (keyD kv.1 = some k)).map (·.2)
theorem rvD_get {K : PySem.W.Frag} {G : Hp} : ∀ {kvs : List (PyData × PyData)} {ks : List (Key × V)} (k : Key), RvD K G kvs ks → (getK kvs k = none ∧ valV ks k = none) ∨ ∃ d v, getK kvs k = some d ∧ valV ks k = some v ∧ Rv K G d v
  | [], _, k, h => by cases h; exact .inl ⟨rfl, rfl⟩
  | (a, d) :: kvs, _, k, ⟨x, r, e, ⟨h1, h2⟩, h3⟩ => by
    subst e
    by_cases q : x.1 = k
    · refine .inr ⟨d, x.2, ?_, valV_pos q, h2⟩
      unfold getK
      rw [List.find?_cons_of_pos (by rw [h1, q]; simp)]
      rfl
    · have e1 : getK ((a, d) :: kvs) k = getK kvs k := by
        unfold getK
        rw [List.find?_cons_of_neg (by rw [h1]; simpa using q)]
      rw [e1, valV_neg q]
      exact rvD_get k h3
theorem rv_dK {K : PySem.W.Frag} {G : Hp} {kvs : List (PyData × PyData)} {v : V} (h : Rv K G (.dict kvs) v) (c : isKd kvs = true) : ∃ a ks, v = .ref a ∧ G a = some (HO.dK ks) ∧ RvD K G kvs ks := by
  rcases h with ⟨a, ns, e, _⟩ | h | ⟨a, xs, _, _, h0, _, h⟩ | ⟨a, dx, n, vs, _, _, _, h⟩
  · cases e
    simp [isKd, keyD] at c
  · exact h
  · cases kvs with
    | nil => cases h; exact absurd rfl h0
    | cons p r =>
      obtain ⟨k, d⟩ := p
      obtain ⟨x, r', _, ⟨_, _, k3, _⟩, _⟩ := h
      cases k <;> first | exact absurd k3 Bool.false_ne_true | (simp [isKd, keyD] at c)
  · cases kvs with
    | nil => cases h
    | cons p r =>
      obtain ⟨k, d⟩ := p
      obtain ⟨x, r', e, ⟨e2, _⟩, _⟩ := h
      cases e
      subst e2
      simp [isKd, keyD] at c
theorem keyD_v {K : PySem.W.Frag} {G : Hp} {d : PyData} {k : Key} {v : V} (h : Rv K G d v) (e : keyD d = some k) : v = kV k := by
  cases d with
  | int i => cases e; exact h
  | str x => cases e; exact h
  | _ => cases e
def gKd : PyData → Option (List (PyData × PyData))
  | .dict kvs => if isKd kvs = true then some kvs else none
  | _ => none
def isDict (r : List Sl) (a : Arg) : Bool := match reso r a with
  | some (.dict kvs) => isDc kvs
  | _ => false
def dGet2 (d : M Arg) (k x : M PyData) : M PyData := d.bind fun a r0 => if isDict r0 a then (k.bind fun b => x.bind fun c r => match reso r a with
  | some (.dict kvs) => if isDc kvs && okK kvs b then .ok ((getKV kvs b).getD c) r else .st
  | _ => .st) r0 else .st
theorem gKd_rv {K : PySem.W.Frag} {G : Hp} {d : PyData} {v : V} {kvs : List (PyData × PyData)} (h : Rv K G d v) (e : gKd d = some kvs) : ∃ a ks, v = .ref a ∧ G a = some (HO.dK ks) ∧ RvD K G kvs ks := by
  unfold gKd at e
  split at e
  · split at e
    · rename_i c
      cases e
      exact rv_dK h c
    · cases e
  · cases e
section
variable {X : Cx} {TG : TGx} {W : WX} {o e f : Expr} {apos cpos : Pos} {d : M Arg} {k x : M PyData}
theorem de_get2 (hu : X.A.units + 65 < cLine) (ho : DO X TG W o d) (he : DE X TG W e k) (hf : DE X TG W f x) (m : M2 X o "get" apos e f cpos) (hw : TG.hs = wh X := by rfl) :
    DE X TG W (.Call (.Attribute o "get" apos) [e, f] [] cpos) (dGet2 d k x) := PE_imp (pe_get2DD hu ho he hf m) fun s H Q q => by
  obtain ⟨B, F, G0, G, z, i, p⟩ := rd_bind (R1 := RO X.K s) q
  refine ⟨B, F, G0, G, z, i, post_imp (fun v H1 q => ?_) _ p⟩
  obtain ⟨B, F, G0, G1, r1, a, i1, v1, p1⟩ := q
  have p1 : post X.K TG W (RE X.K) B F G0 G1 s Q (if isDict r1 a then (k.bind fun b => x.bind fun c r => match reso r a with
    | some (.dict kvs) => if isDc kvs && okK kvs b then .ok ((getKV kvs b).getD c) r else .st
    | _ => .st) r1 else .st) := p1
  split at p1
  · rename_i hd
    unfold isDict at hd
    split at hd
    · rename_i kvs hr
      obtain ⟨D, ob, rfl, hD, rv⟩ := ro_dict (hs := TG.hs) (fun k h => TG.ok k h) i1.gh hd (ro_of i1 v1 hr)
      refine ⟨G1, kvs, D, ob, rfl, hD, by rw [← hw]; exact rv, i1.gh, B, F, G0, G1, r1, i1, post_imp (fun y H2 q => ?_) _ (post_bind (R1 := RE X.K) _ p1)⟩
      obtain ⟨G2, r2, b, e2, i2, v2, p2⟩ := q
      refine ⟨B, F, G0, G2, r2, i2, post_imp (fun w2 H3 q => ?_) _ (post_bind (R1 := RE X.K) _ p2)⟩
      obtain ⟨G3, r3, c, e3, i3, v3, p3⟩ := q
      cases hr3 : reso r3 a with
      | none => simp only [hr3] at p3; exact p3.elim
      | some d3 =>
        simp only [hr3] at p3
        have ra := ro_of i3 (v1.mono (e2.trans e3)) hr3
        cases d3 with
        | dict kvs3 =>
          have p3 : post X.K TG W (RE X.K) B F G0 G3 s Q (if isDc kvs3 && okK kvs3 b then .ok ((getKV kvs3 b).getD c) r3 else .st) := p3
          split at p3
          · rename_i hc
            rw [Bool.and_eq_true] at hc
            obtain ⟨D', o3, e', hD3, rv3⟩ := ro_dict (hs := TG.hs) (fun k h => TG.ok k h) i3.gh hc.1 ra
            cases e'
            refine ⟨G3, kvs3, b, ⟨o3, hD3, by rw [← hw]; exact rv3, i3.gh, Rv.mono e3 _ _ v2, hc.2⟩, fun w hm => p3 G3 H3 w (.refl _) i3 ?_⟩
            cases hg : getKV kvs3 b with
            | none => rw [hg] at hm; have hm : w = w2 := hm; subst hm; exact v3
            | some z => rw [hg] at hm; exact hm
          · exact p3.elim
        | _ => exact p3.elim
    · cases hd
  · exact p1.elim
end
/-! ### {}, {k: v} -/
def xNew : M Rz := .ret (.x (.d []))
def xDisp1 (dk dv : M PyData) : M Rz := dk.bind fun a => dv.bind fun b => if isFl a || isNt a then .ret (.x (.d [(a, b)])) else .st
section
variable {X : Cx} {TG : TGx} {W : WX} {k v : Expr} {pos : Pos} {dk dv : M PyData}
theorem dx_new : DX X TG W (.Dict [] [] pos) xNew := PE_imp pe_dnewK fun s H Q q => by
  obtain ⟨B, F, G0, G, r, i, p⟩ := q
  intro a ha
  obtain ⟨i2, f⟩ := i.newx (o := .dK []) (w := .x (.d [])) ha (.inl ⟨[], rfl, rfl⟩)
  exact p _ _ _ (.refl _) i2 f
theorem dx_disp1 (hu : X.A.units + 65 < cLine) (hk : DE X TG W k dk) (hv : DE X TG W v dv) (hw : TG.hs = wh X := by rfl) : DX X TG W (.Dict [some k] [v] pos) (xDisp1 dk dv) := by
  have h1 := pe_disp (X := X) (pos := pos) (pps_cons hk hv pps_nil) rfl rfl (by simp) (by show 1 ≤ 15; decide)
  have h2 := pe_dispN (pos := pos) hu hk hv
  refine ⟨fun pins s σ H Q I q => ?_⟩
  obtain ⟨B, F, G0, G, z, i, p⟩ := q
  -- what the pair's run says, the new dict held by the frame
  have main : ∀ (fl : Bool), (∀ a r1, dk z = .ok a r1 → isNt a = !fl) → ∀ pp : Addr, H pp = none → rd X.K TG W (RE X.K) dk σ (upd H pp (.dK [])) fun x H1 => rd X.K TG W (RE X.K) dv σ H1 fun y H2 => H2 pp = some (.dK []) ∧ ∃ G2 d e, (if fl then isFl d else isNt d) = true ∧ Rv X.K G2 d x ∧ Same G2 H2 ∧ Rv X.K G2 e y ∧
      ∀ o', DcO (wh X) X.K G2 [(d, e)] pp o' → Q (.ref pp) (upd H2 pp o') := fun fl hfl pp hp => by
    have fD : F pp = none := none_sub i.fh hp
    have gD : G pp = none := none_sub i.gh hp
    have g0D : G0 pp = none := none_sub i.g0 gD
    refine ⟨B, upd F pp (.dK []), G0, G, z, i.holdO (o := .dK []) hp (fun _ e => by cases e), ?_⟩
    unfold xDisp1 M.bind at p
    cases hr : dk z with
    | st => rw [hr] at p; exact p
    | ex x r1 => rw [hr] at p; exact fun G' H' c dx e' i' => p G' H' c dx e' (i'.looseO fD)
    | ok a r1 =>
      rw [hr] at p
      intro G1 H1 x e1 i1 rx
      refine ⟨B, upd F pp (.dK []), G0, G1, r1, i1, ?_⟩
      have p : postX X.K TG W B F G0 G σ Q ((dv r1).bind fun b => if isFl a || isNt a then .ret (.x (.d [(a, b)])) else .st) := p
      cases hr2 : dv r1 with
      | st => rw [hr2] at p; exact p
      | ex x r2 => rw [hr2] at p; exact fun G' H' c dx e' i' => p G' H' c dx (e1.trans e') (i'.looseO fD)
      | ok b r2 =>
        rw [hr2] at p
        intro G2 H2 y e2 i2 ry
        have p : postX X.K TG W B F G0 G σ Q ((if isFl a || isNt a then (M.ret (.x (.d [(a, b)])) : M Rz) else .st) r2) := p
        split at p
        · rename_i hc
          have gD2 := i2.gnoneO g0D
          refine ⟨i2.fh _ _ upd_same, G2, a, b, ?_, Rv.mono e2 _ _ rx, i2.gh, ry, fun o' D' => ?_⟩
          · have := hfl a r1 hr
            rw [Bool.or_eq_true] at hc
            cases fl with
            | true => rcases hc with hc | hc; exact hc; rw [this] at hc; cases hc
            | false => exact this
          · have D2 : DcO TG.hs X.K G2 [(a, b)] pp o' := by rw [hw]; exact D'
            have i3 := (i2.heldO (o' := o') gD2 (fun _ e => by cases e) D'.notTbl (fun _ => codeO_dK)).looseO fD
            refine p _ _ _ (e1.trans e2) i3 ⟨⟨o', upd_same, D2⟩, gD2, fD, fun j w q z => ?_⟩
            obtain ⟨a', o2, k1, _, _, _, k5⟩ := i2.owns j w q
            rw [z] at k1
            cases k1
            rw [upd_same] at k5
            cases k5
        · exact p.elim
  cases hr : dk z with
  | ok a r1 =>
    cases ha : isNt a with
    | true => exact h2.run pins s σ H Q I fun pp hp => main false (fun a' r' e => by rw [hr] at e; cases e; rw [ha]; rfl) pp hp
    | false =>
      refine h1.run pins s σ H Q I fun pp hp => ?_
      obtain ⟨B', F', G0', G', z', i', p'⟩ := main true (fun a' r' e => by rw [hr] at e; cases e; rw [ha]; rfl) pp hp
      refine ⟨B', F', G0', G', z', i', post_imp (fun x H1 q => ?_) _ p'⟩
      obtain ⟨B', F', G0', G', z', i', p'⟩ := q
      refine ⟨B', F', G0', G', z', i', post_imp (fun y H2 q => ?_) _ p'⟩
      obtain ⟨e0, G2, d, e, hd, rx, sg, ry, q⟩ := q
      obtain ⟨k, hk'⟩ := isFl_key hd
      have ex := rv_key hk' rx
      subst ex
      exact ⟨e0, [(k, y)], rfl, by show 1 ≤ 15; decide, q _ (.inl ⟨[(k, y)], rfl, (k, y), [], rfl, ⟨hk', ry⟩, rfl⟩)⟩
  | st => exact h2.run pins s σ H Q I fun pp hp => main false (fun a' r' e => by rw [hr] at e; cases e) pp hp
  | ex x r1 => exact h2.run pins s σ H Q I fun pp hp => main false (fun a' r' e => by rw [hr] at e; cases e) pp hp
end
end TW

end
section
namespace TW
open PySem PySem.Spec PyProof.Rows L2
def dNeg (d : M PyData) : M PyData := d.bind fun x => match x with
  | .int i => .ret (.int (-i))
  | _ => .st
section
variable {X : Cx} {TG : TGx} {W : WX} {e : Expr} {d : M PyData} {pos : Pos}
theorem de_neg (h : DE X TG W e d) : DE X TG W (.UnaryOp .USub e pos) (dNeg d) := PE_imp (pe_un un_neg h) fun s H Q q => by
  obtain ⟨B, F, G0, G, r, i, p⟩ := rd_bind (R1 := RE X.K) q
  refine ⟨B, F, G0, G, r, i, post_imp (fun x H1 q => ?_) _ p⟩
  obtain ⟨B, F, G0, G1, r1, a, i1, v1, p1⟩ := q
  cases a with
  | int n => exact ⟨n, v1, p1 G1 H1 _ (.refl _) i1 rfl⟩
  | none => exact p1.elim
  | bool _ => exact p1.elim
  | str _ => exact p1.elim
  | list _ => exact p1.elim
  | tuple _ => exact p1.elim
  | dict _ => exact p1.elim
end
end TW

end
section
/-! exceptions of the program's own classes: raise C(e), try .. except K as n. -/
namespace TW
open PySem PySem.Spec PyProof.Rows L2
/-- a class C of the name x, below ValueError, whose __init__ keeps its one argument as the field f -/
structure XCls (K : PySem.W.Frag) (mg : Str → Option Value) (x f : Str) (C fI : Addr) : Prop where
  mg : mg x = some (.ref C)
  ns : PySem.W.nsIn K mainGlobals x = some (some (.ref C))
  oex : OexC K C
  init : PySem.W.findIn K (.ref C) "__init__" = some (some (.ref fI))
  ti : PySem.W.typeIn K (.ref fI) = some (.type "function")
  no : PySem.W.findIn K (.ref C) f = some none
/-- what __init__ promises -/
def spInit (K : PySem.W.Frag) (f : Str) : Sp := fun vs H Q _ => ∃ (a C : Addr) (v : V), vs = [.ref a, v] ∧ OexC K C ∧ PySem.W.findIn K (.ref C) f = some none ∧ H a = some (exo a C none) ∧
  ∀ dx, H dx = none → dx ≠ a → Q .non (upd (upd H dx (exd dx [(f, v)])) a (exo a C (some dx)))
section
variable {P : Program} {w : World} {K : PySem.W.Frag} {mg : Str → Option Value} {base : Heap} {qual : Str} {params : Arguments} {scope : Scope} {fI : Addr} {fd : FuncData} {f g : Str} {k : Nat} {p1 p2 p3 pos : Pos}
/-- def __init__(self, g): self.f = g -/
theorem init_ok {y : Str} (F : FunD K y qual params [.Assign [.Attribute (.Name "self" p1) f p2] (.Name g p3) pos] scope [] [] fI fd) (S : FnScope ["self", g] ["self", g] scope) (hv0 : Vis scope "self") (hv1 : Vis scope g)
    (hd1 : (g == ("__debug__" : Str)) = false := by decide) (hd2 : (g == ("__classdict__" : Str)) = false := by decide) :
    FnOk P w K mg base (L2.CX P w) (k + 1) fI fd ["self", g] (spInit K f) := by
  refine F.ok S (fun vs H Q E h => by obtain ⟨a, C, v, rfl, _⟩ := h; rfl) fun cdv A outer s H vs Q E hr hsp => ?_
  obtain ⟨a, C, v, rfl, T, hno, ha, hq⟩ := hsp
  refine ⟨_, pss_one (ps_ost (f := f) (pe_var (i := 0) rfl hv0) (pe_var (i := 1) rfl hv1 hd1 hd2) (by rfl)), ?_⟩
  exact ⟨v, rfl, .ref a, rfl, a, C, rfl, T, hno, .inl ⟨ha, fun dx h1 h2 => hq dx h1 h2⟩⟩
end
/-- def __init__(self, g, h): self.f = g; self.f2 = h -/
def spInit2 (K : PySem.W.Frag) (f f2 : Str) : Sp := fun vs H Q _ => ∃ (a C : Addr) (v v2 : V), vs = [.ref a, v, v2] ∧ OexC K C ∧ PySem.W.findIn K (.ref C) f = some none ∧ PySem.W.findIn K (.ref C) f2 = some none ∧ H a = some (exo a C none) ∧
  ∀ dx, H dx = none → dx ≠ a → Q .non (upd (upd (upd H dx (exd dx [(f, v)])) a (exo a C (some dx))) dx (exd dx [(f, v), (f2, v2)]))
/-- a class C of the name x, below ValueError, without an __init__ of its own -/
structure XCls0 (K : PySem.W.Frag) (mg : Str → Option Value) (x : Str) (C : Addr) : Prop where
  mg : mg x = some (.ref C)
  ns : PySem.W.nsIn K mainGlobals x = some (some (.ref C))
  exc : PySem.W.excIn K C [.type "ValueError", .type "Exception", .type "BaseException", .type "object"] "ValueError.__new__" = true
  keep : PySem.W.keepIn K (.ref C) = true
  sub : PySem.W.subIn K (.ref C) (.type "BaseException") = some true
  ty : PySem.W.typeIn K (.ref C) = some (.type "type")
def sRaise0 (x : Str) : M Fl := fun r => .ex ⟨x, []⟩ r
section
variable {X : Cx} {TG : TGx} {W : WX} {x : Str} {C : Addr} {p pos pos2 : Pos}
theorem pmk_own0 {bmB : List Value} {B newId initId : String} (F : ExcBaseFacts B newId initId bmB) (q : PySem.W.excIn X.K C bmB newId = true) (gC : X.mg x = some (.ref C)) (kC : PySem.W.keepIn X.K (.ref C) = true) (r : Raises X (.ref C)) (hg : Gl X x)
    (hdb : (x == ("__debug__" : Str)) = false := by decide) : PMk X (.Call (.Name x p) [] [] pos) (fun _ H Q => Q (.ref C) none H) := by
  intro pins s σ H Q I h
  refine wpAny_Call_Name_kw (ld_glob I hg gC ?_ hdb)
  refine PySem.W.callWith_K0 I.kIn kC ?_
  show wpAny _ _ (call (.ref C) []) _ _ _
  obtain ⟨bm, N, nm, qn, bs, hdct, sn, sub, ab, col, dd, k0, k1, k2, k3, k5, mN, hC, hN, hni, T⟩ := exc_obj I.kIn q
  refine wpAny_call_exc_subT F T hC hN hni (fun h' e hm => ?_) (by show 0 ≤ sizeLine; exact Nat.zero_le _)
  exact mk_of I hm r h (I.hok.gone hm.new)
theorem ds_raise0 (hc : X.calm = true) (tk : Takes X W) (c : XCls0 X.K X.mg x C) (hg : Gl X x) (hdb : (x == ("__debug__" : Str)) = false := by decide) :
    DS X TG W (.Raise (some (.Call (.Name x p) [] [] pos)) none pos2) (sRaise0 x) := PS_imp (ps_raise hc tk (pmk_own0 PySem.F.excBase_ValueError c.exc c.mg c.keep (raises_own c.sub c.ty) hg hdb)) fun D s H q => by
  obtain ⟨B, F, G0, G, r, i, pp⟩ := q
  exact pp G H s (.ref C) none (.refl _) i ⟨by unfold clsAt; rw [c.ns], rfl⟩
end
def sRaise1 (x f : Str) (d : M PyData) : M Fl := d.bind fun v r => .ex ⟨x, [(f, v)]⟩ r
section
variable {X : Cx} {TG : TGx} {W : WX} {x f g : Str} {C fI : Addr} {fd : FuncData} {k : Nat} {e : Expr} {d : M PyData} {p pos pos2 : Pos}
theorem heap_exc {H1 : Hp} {a dx C : Addr} {f : Str} {v : V} (ha : H1 a = none) (hd : dx ≠ a) : upd (del (upd (upd (upd H1 a (exo a C none)) dx (exd dx [(f, v)])) a (exo a C (some dx))) a) dx (.xd [(f, v)]) = upd H1 dx (.xd [(f, v)]) := by
  funext b
  by_cases h : b = dx
  · subst h
    rw [upd_same, upd_same]
  · rw [upd_ne h, upd_ne h]
    by_cases h2 : b = a
    · subst h2
      rw [del_same, ha]
    · rw [del_ne h2, upd_ne h2, upd_ne h, upd_ne h2]
theorem ds_raise1 (hc : X.calm = true) (tk : Takes X W) (c : XCls X.K X.mg x f C fI) (F1 : FnOk X.prog X.w X.K X.mg X.base (L2.CX X.prog X.w) k fI fd ["self", g] (spInit X.K f)) (hr : Room (k + 1) X.A) (hb : Binds X.K fd ["self", g] []) (hg : Gl X x) (he : DE X TG W e d)
    (hdb : (x == ("__debug__" : Str)) = false := by decide) (hs : starEach [e] X.env = (false, eval e X.env) :: starEach [] X.env := by rfl) (hpl : (backTo pos (starEach [] X.env)).any (·.1) = false := by rfl) :
    DS X TG W (.Raise (some (.Call (.Name x p) [e] [] pos)) none pos2) (sRaise1 x f d) := PS_imp (ps_raise hc tk (pmk_oex c.oex c.init c.ti F1 hr hb .nil passL hg c.mg (pa_cons he pa_nil hs) hdb hs hpl)) fun D s H q => by
  obtain ⟨B, F, G0, G, r, i, pp⟩ := rdS_bind (R := RE X.K) q
  refine ⟨B, F, G0, G, r, i, post_imp (fun v H1 q => ?_) _ pp⟩
  obtain ⟨B, F, G0, G1, r1, a1, i1, v1, p1⟩ := q
  refine ⟨by simp, fun a ha => ⟨a, C, v, rfl, c.oex, c.no, upd_same, fun dx h1 h2 => ⟨rfl, dx, [(f, v)], upd_same, by rw [upd_ne h2, upd_same], ?_, ?_⟩⟩⟩
  · rwa [upd_ne h2] at h1
  · have hd : H1 dx = none := by rwa [upd_ne h2] at h1
    rw [heap_exc ha h2]
    have gr := Grow.new i1.gh hd (.xd [(f, v)]) (fun _ z => by cases z)
    exact p1 (upd G1 dx (.xd [(f, v)])) _ s (.ref C) (some dx) gr.g (i1.grow gr) ⟨by unfold clsAt; rw [c.ns], ⟨dx, [(f, v)], rfl, upd_same, rfl, ⟨v, [], rfl, Rv.mono gr.g _ _ v1, rfl⟩⟩⟩
end
end TW

end
section
/-! try: .. except K as n: .., of exceptions of the program's own classes; isinstance(n, C) and n.f in the handler -/
namespace TW
open PySem PySem.Spec PyProof.Rows L2
/-- what isinstance and a look at a field ask of the class C -/
structure XIs (K : PySem.W.Frag) (C : Addr) : Prop where
  cl : (PySem.W.clsIn K C).isSome = true
  ga : PySem.W.findIn K (.ref C) "__getattribute__" = some (some (.builtin "BaseException.__getattribute__"))
  gg : PySem.W.findIn K (.ref C) "__getattr__" = some none
  sb : PySem.W.subIn K (.ref C) (.type "BaseException") = some true
  ca : PySem.W.findIn K (.ref C) "__class__" = some (some (.builtin "object.__class__"))
  sp : PySem.W.specialIn K (.builtin "object.__class__") "__get__" = some (some (.builtin "getset_descriptor.__get__"))
  tk : PySem.W.takesIn K (.builtin "object.__class__") = some true
  mr : PySem.W.mroIn K C (.type "object") = some true
  hd : PySem.W.hasDictIn K C = true
/-- of the classes cs: isinstance(n, v) is f -/
def XKit (K : PySem.W.Frag) (cs : List Str) (v : Value) (f : Str → Bool) : Prop := ∀ c ∈ cs, XIs K (clsAt K c) ∧ PySem.W.kitOne K (.ref (clsAt K c)) v = some (f c)
/-- of the classes cs: except v takes them -/
def XExm (K : PySem.W.Frag) (cs : List Str) (v : Value) : Prop := ∀ c ∈ cs, PySem.W.exmOne K (.ref (clsAt K c)) v = some true
/-- of the classes cs: the field f is the object's own -/
def XNo (K : PySem.W.Frag) (cs : List Str) (f : Str) : Prop := ∀ c ∈ cs, XIs K (clsAt K c) ∧ PySem.W.findIn K (.ref (clsAt K c)) f = some none
def TGx.at (TG : TGx) (z : EvZ) : TGx := ⟨TG.ts, some z, TG.hs, TG.ok⟩
def isEv : Sl → Bool
  | .ev _ => true
  | _ => false
def noEv (r : List Sl) : Bool := r.all fun x => !isEv x
theorem noEv_at {r : List Sl} (h : noEv r = true) {i : Nat} {e : Ex} (hi : r[i]? = some (.ev e)) : False := by
  have := (List.all_eq_true.mp h) _ (List.mem_of_getElem? hi)
  cases this
section
variable {K : PySem.W.Frag} {TG : TGx} {B : List (Nat × Addr)} {F G0 G H : Hp} {r : List Sl} {s : L2.St} {z : EvZ}
theorem OwR.at {a : Addr} {w : Ow} {o : HO} (h : OwR TG K G a w o) : OwR (TG.at z) K G a w o := by cases w <;> exact h
theorem OwR.of {a : Addr} {w : Ow} {o : HO} (h : OwR (TG.at z) K G a w o) : OwR TG K G a w o := by cases w <;> exact h
/-- the handler begins -/
theorem SR.toEv (i : SR K TG B F G0 G H r s) (ne : noEv r = true) {j : Nat} {e : Ex} (hj : j < r.length) (hio : ∀ y, r[j]? = some y → y.isIo = false) (he : ExR K G e z.c z.d) : SR K (TG.at z) B F G0 G H (r.set j (.ev e)) (s.set j (some (.ref z.a))) := by
  refine ⟨by rw [List.length_set, List.length_set]; exact i.len, i.gh, i.fh, i.g0, i.fg, i.gt, i.ft, i.tb, fun k d q => ?_, fun k es q => ?_, fun k l a es es' n q1 q2 e1 => ?_, fun p hp => ?_, fun k e' q => ?_⟩
  · by_cases z : j = k
    · subst z; rw [List.getElem?_set_self hj] at q; cases q
    · rw [List.getElem?_set_ne z] at q ⊢; exact i.vals k _ q
  · rcases TW.own_set q with ⟨_, z⟩ | ⟨n, z⟩
    · cases z
    · rw [List.getElem?_set_ne n]
      obtain ⟨a, o, h1, h2, h3, h4⟩ := i.owns k es z
      exact ⟨a, o, h1, h2, h3.at, h4⟩
  · rcases TW.own_set q1 with ⟨_, z⟩ | ⟨n1, z1⟩
    · cases z
    · rcases TW.own_set q2 with ⟨_, z⟩ | ⟨n2, z2⟩
      · cases z
      · rw [List.getElem?_set_ne n1] at e1
        rw [List.getElem?_set_ne n2]
        exact i.sep k l a es es' n z1 z2 e1
  · obtain ⟨⟨es, e1, e3⟩, e2⟩ := i.ios p hp
    have n : j ≠ p.1 := fun e => by rw [hio es (by rw [e]; exact e1)] at e3; cases e3
    rw [List.getElem?_set_ne n, List.getElem?_set_ne n]
    exact ⟨⟨es, e1, e3⟩, e2⟩
  · by_cases w : j = k
    · subst w
      rw [List.getElem?_set_self hj] at q
      cases q
      exact ⟨z, rfl, List.getElem?_set_self (i.lt hj), he⟩
    · rw [List.getElem?_set_ne w] at q
      exact (noEv_at ne q).elim
/-- the handler ends -/
theorem SR.ofEv (i : SR K (TG.at z) B F G0 G H r s) (ne : noEv r = true) : SR K TG B F G0 G H r s :=
  ⟨i.len, i.gh, i.fh, i.g0, i.fg, i.gt, i.ft, i.tb, i.vals, fun k es q => let ⟨a, o, h1, h2, h3, h4⟩ := i.owns k es q; ⟨a, o, h1, h2, h3.of, h4⟩, i.sep, i.ios, fun k e q => (noEv_at ne q).elim⟩
end
def freeAt (i : Nat) (r : List Sl) : Bool := match r[i]? with
  | some y => !y.isIo
  | none => false
theorem freeAt_io {i : Nat} {r : List Sl} (h : freeAt i r = true) : i < r.length ∧ ∀ y, r[i]? = some y → y.isIo = false := by
  unfold freeAt at h
  cases q : r[i]? with
  | none => rw [q] at h; cases h
  | some y => rw [q] at h; exact ⟨(List.getElem?_eq_some_iff.mp q).1, fun z hz => by cases hz; simpa using h⟩
/-- try: b / except .. as (name i): hd, of the classes cs -/
def sTry (i : Nat) (cs : List Str) (b hd : M Fl) : M Fl := fun r => match b r with
  | .ex e r1 => if cs.contains e.c && noEv r1 && freeAt i r1 then (match hd (r1.set i (.ev e)) with
    | .ok f r2 => if freeAt i r2 && noEv (r2.set i .un) then .ok f (r2.set i .un) else .st
    | _ => .st) else .st
  | y => y
section
variable {X : Cx} {TG : TGx} {W : WX} {ke n : Str} {CK : Value} {i : Nat} {body suite : List Stmt} {b₀ : Stmt} {b hd : M Fl} {cs : List Str} {np pos' pos : Pos}
theorem ds_try (hs : X.stack = X.env :: X.outer) (hf : X.env.frame = some X.env.locals) (hN : X.N.Nodup) (hi : X.N[i]? = some n) (hln : X.env.kindOf n = some .local)
    (hk : Names X ke CK) (tk : Takes X W) (T : XExm X.K cs CK)
    (hb : ∀ (W' : WX) (pn : List (Addr × Obj)) (xe : Value → Shared → Prop), Takes (X.tr pn xe) W' → PassesOwn (model X.prog X.w) X.A X.env xe → DSs (X.tr pn xe) TG W' body b)
    (hh : ∀ (a : Addr) (oe : Obj) (cls : Value) (d : Option Addr) (pn : List (Addr × Obj)), Zc cls d oe → (∃ vs, oe.data = .fields vs) → DSs (X.suite a ((a, oe) :: pn)) (TG.at ⟨a, cls, d⟩) W0 (b₀ :: suite) hd) :
    DS X TG W (.Try body [.ExceptHandler (some (.Name ke np)) (some n) (b₀ :: suite) pos'] [] [] pos) (sTry i cs b hd) :=
  PS_imp (ps_try_as (tb := fun W' => rdS X.K TG W' b) (ts := fun a cls d => rdS X.K (TG.at ⟨a, cls, d⟩) W0 hd) hs hf hN hi hln hk tk hb hh) fun D s H q => by
    obtain ⟨B, F, G0, G, r, i0, p⟩ := q
    refine ⟨B, F, G0, G, r, i0, ?_⟩
    unfold sTry at p
    cases hbr : b r with
    | st => rw [hbr] at p; exact p.elim
    | ok fl r1 => rw [hbr] at p; exact p
    | ex e r1 =>
      rw [hbr] at p
      have p2 : postS X.K TG W B F G0 G D (if cs.contains e.c && noEv r1 && freeAt i r1 then (match hd (r1.set i (.ev e)) with
        | .ok f r2 => if freeAt i r2 && noEv (r2.set i .un) then .ok f (r2.set i .un) else .st
        | _ => .st) else .st) := p
      clear p
      split at p2
      · rename_i hc
        simp only [Bool.and_eq_true] at hc
        obtain ⟨⟨hc1, hc2⟩, hc4⟩ := hc
        obtain ⟨hc3, hio⟩ := freeAt_io hc4
        have hm : e.c ∈ cs := by simpa using hc1
        intro G' H' s' cls dx sm i1 er
        have ec := er.1
        refine ⟨true, by rw [ec]; exact T _ hm, fun _ a ha => ?_, fun h => by cases h⟩
        have i2 := i1.toEv (z := ⟨a, cls, dx⟩) hc2 hc3 hio er
        refine ⟨B, F, G0, G', _, i2, ?_⟩
        cases hh2 : hd (r1.set i (.ev e)) with
        | st => rw [hh2] at p2; exact p2.elim
        | ex _ _ => rw [hh2] at p2; exact p2.elim
        | ok f r2 =>
          rw [hh2] at p2
          have p3 : postS X.K TG W B F G0 G D (if freeAt i r2 && noEv (r2.set i .un) then .ok f (r2.set i .un) else .st) := p2
          split at p3
          · rename_i hc
            rw [Bool.and_eq_true] at hc
            have hio2 := (freeAt_io hc.1).2
            intro G2 H2 s2 e2 i3
            have i4 := (i3.un hio2).ofEv hc.2
            have q := p3 G2 H2 _ (sm.trans e2) i4
            cases f with
            | nx => exact q
            | bk => exact q
            | ct => exact q
            | rt d => exact q
          · exact p3.elim
      · exact p2.elim
end
/-! ### in the handler -/
/-- isinstance(n, v), n the caught exception -/
def rIsXs (K : PySem.W.Frag) (cs : List Str) (f : Str → Bool) (a : Addr) (cls : Value) (d : Option Addr) (vv : V) : List V → Hp → VK → Prop := fun xs H Q => ∃ c, c ∈ cs ∧ cls = .ref (clsAt K c) ∧ (d = none ∨ ∃ (dd : Addr) (fs : List (Str × V)), d = some dd ∧ H dd = some (.xd fs)) ∧ xs = [.ref a, vv] ∧ Q (.bl (f c)) H
section
variable {X : Cx} {a : Addr} {oe : Obj} {cls : Value} {d : Option Addr} {pn : List (Addr × Obj)} {cs : List Str} {f : Str → Bool} {v : Value} {vv : V}
theorem call_isXs (T : XKit X.K cs v f) (hv : ∀ u, RelV vv u → u = v) (hz : Zc cls d oe) (hf : ∃ vs, oe.data = .fields vs) : CallR (X.suite a ((a, oe) :: pn)) (.builtin "isinstance") (rIsXs X.K cs f a cls d vv) := by
  intro pins s σ H xs us Q I r h
  obtain ⟨c, hm, ec, hd, ex, q⟩ := h
  subst ex
  obtain ⟨u1, u2, rfl, r1, r2⟩ := vals2 r
  obtain rfl : u1 = Value.ref a := r1
  obtain rfl := hv u2 r2
  subst ec
  obtain ⟨t, kit⟩ := T c hm
  obtain ⟨ha, _⟩ := I.pin (a, oe) (List.mem_append_left _ List.mem_cons_self)
  obtain ⟨vs, hdt⟩ := hf
  have no : PySem.W.notCls oe = true := by unfold PySem.W.notCls; rw [hdt] <;> rfl
  have J : ∃ od, PySem.W.InstAt s.heap a oe (clsAt X.K c) od := by
    rcases hd with rfl | ⟨dd, fs, rfl, ea⟩
    · exact ⟨none, ha, hz.1, no, by rw [hz.2]; exact True.intro⟩
    · have hx : ObjOk X.prog X.w H s.heap dd (.xd fs) := I.hok dd _ ea
      obtain ⟨mA, hns, hr⟩ := hx
      obtain ⟨od, ho, hl⟩ := lookIn_ns hns
      exact ⟨some od, ha, hz.1, no, by rw [hz.2]; exact ho⟩
  obtain ⟨od, J⟩ := J
  exact PySem.W.kia_one (PySem.W.kitx_exc t.cl t.ga t.gg t.sb t.ca t.sp t.tk t.mr) I.kIn J kit (fun z => nomatch z) fun tk => ⟨.bl (f c), H, I.tok tk, rfl, q⟩
end
def dIsx (i : Nat) (cs : List Str) (f : Str → Bool) : M PyData := fun r => match r[i]? with
  | some (.ev e) => if cs.contains e.c then .ok (.bool (f e.c)) r else .st
  | _ => .st
section
variable {X : Cx} {TG : TGx} {W : WX} {a : Addr} {oe : Obj} {cls : Value} {d : Option Addr} {pn : List (Addr × Obj)} {cs : List Str} {f : Str → Bool} {v : Value} {vv : V} {i : Nat} {n x : Str} {p2 p3 p4 pos : Pos} {e : Expr}
theorem exR_xd {K : PySem.W.Frag} {G H : Hp} {e : Ex} {d : Option Addr} (sg : Same G H) (h : ExR K G e cls d) : d = none ∨ ∃ (dd : Addr) (fs : List (Str × V)), d = some dd ∧ H dd = some (.xd fs) := by
  obtain ⟨n, fs⟩ := e
  cases fs with
  | nil => exact .inl h.2
  | cons p r =>
    obtain ⟨dd, vs, h1, h2, _⟩ := h.2
    exact .inr ⟨dd, vs, h1, sg _ _ h2⟩
theorem rd_isx {s : L2.St} {H : Hp} {Q : VK} (h : rd X.K (TG.at ⟨a, cls, d⟩) W (RE X.K) (dIsx i cs f) s H Q) : tCB (rIsXs X.K cs f a cls d vv) (tCons (tVar i) (tCons (tC vv) tNil)) s H Q := by
  obtain ⟨B, F, G0, G, r, i0, p⟩ := h
  unfold dIsx at p
  split at p
  · rename_i ex hex
    split at p
    · rename_i hc
      obtain ⟨z, hz, h1, h2⟩ := i0.evs i ex hex
      cases hz
      refine ⟨.ref a, h1, ex.c, by simpa using hc, h2.1, exR_xd i0.gh h2, rfl, p G H _ (.refl _) i0 rfl⟩
    · exact p.elim
  · exact p.elim
/-- isinstance(n, C), C a class of the program -/
theorem de_isx {D : Addr} (T : XKit X.K cs (.ref D) f) (hz : Zc cls d oe) (hfl : ∃ vs, oe.data = .fields vs) (hi : X.N[i]? = some n) (hv : Vis X.env.scope n) (hgi : Gl X "isinstance") (hmi : X.mg "isinstance" = none) (hgx : Gl X x) (hmx : X.mg x = some (.ref D))
    (hd1 : (n == ("__debug__" : Str)) = false := by decide) (hd2 : (n == ("__classdict__" : Str)) = false := by decide) (hdx : (x == ("__debug__" : Str)) = false := by decide)
    (he : starEach [.Name n p2, .Name x p3] X.env = (false, eval (.Name n p2) X.env) :: starEach [.Name x p3] X.env := by rfl) (he2 : starEach [.Name x p3] X.env = (false, eval (.Name x p3) X.env) :: starEach [] X.env := by rfl) (hpl : (backTo p4 (starEach [.Name x p3] X.env)).any (·.1) = false := by rfl) :
    DE (X.suite a ((a, oe) :: pn)) (TG.at ⟨a, cls, d⟩) W (.Call (.Name "isinstance" pos) [.Name n p2, .Name x p3] [] p4) (dIsx i cs f) :=
  PE_imp (pe_callB (X := X.suite a ((a, oe) :: pn)) (call_isXs T (vv := .ref D) (fun u h => h) hz hfl) hgi hmi bl_isinstance (pa_cons (pe_var hi hv hd1 hd2) (pa_cons (pe_glob (v := .ref D) hgx hmx rfl hdx) pa_nil he2) he) (by decide) (by decide) he hpl) fun s H Q q => rd_isx q
/-- isinstance(n, T), T a built-in class -/
theorem de_isxT {Tn : String} (T : XKit X.K cs (.type Tn) f) (hz : Zc cls d oe) (hfl : ∃ vs, oe.data = .fields vs) (hi : X.N[i]? = some n) (hv : Vis X.env.scope n) (hgi : Gl X "isinstance") (hmi : X.mg "isinstance" = none) (hgx : Gl X x) (hmx : X.mg x = none) (hvx : bootBuiltins x = some (.type Tn)) (hn : x ≠ "__name__" := by decide)
    (hd1 : (n == ("__debug__" : Str)) = false := by decide) (hd2 : (n == ("__classdict__" : Str)) = false := by decide) (hdx : (x == ("__debug__" : Str)) = false := by decide)
    (he : starEach [.Name n p2, .Name x p3] X.env = (false, eval (.Name n p2) X.env) :: starEach [.Name x p3] X.env := by rfl) (he2 : starEach [.Name x p3] X.env = (false, eval (.Name x p3) X.env) :: starEach [] X.env := by rfl) (hpl : (backTo p4 (starEach [.Name x p3] X.env)).any (·.1) = false := by rfl) :
    DE (X.suite a ((a, oe) :: pn)) (TG.at ⟨a, cls, d⟩) W (.Call (.Name "isinstance" pos) [.Name n p2, .Name x p3] [] p4) (dIsx i cs f) :=
  PE_imp (pe_callB (X := X.suite a ((a, oe) :: pn)) (call_isXs T (vv := .ty Tn) (fun u h => h) hz hfl) hgi hmi bl_isinstance (pa_cons (pe_var hi hv hd1 hd2) (pa_cons (pe_bltn (v := .ty Tn) hgx hmx hvx rfl hn hdx) pa_nil he2) he) (by decide) (by decide) he hpl) fun s H Q q => rd_isx q
theorem rva_lookup {K : PySem.W.Frag} {G : Hp} {f : Str} {d : PyData} : ∀ {fs : List (Str × PyData)} {vs : List (Str × V)}, vs.map (·.1) = fs.map (·.1) → RvA K G (fs.map (·.2)) (vs.map (·.2)) → fs.lookup f = some d → ∃ v, vs.lookup f = some v ∧ Rv K G d v
  | [], vs, _, _, h => by cases h
  | (g, e) :: fs, [], h1, _, _ => by cases h1
  | (g, e) :: fs, (g', u) :: vs, h1, h2, h => by
    simp only [List.map_cons, List.cons.injEq] at h1
    obtain ⟨rfl, h1⟩ := h1
    obtain ⟨x, r, e1, h3, h4⟩ := h2
    simp only [List.map_cons, List.cons.injEq] at e1
    obtain ⟨rfl, rfl⟩ := e1
    by_cases q : f = g'
    · subst q
      simp only [List.lookup_cons, beq_self_eq_true] at h ⊢
      cases h
      exact ⟨u, rfl, h3⟩
    · have hb : (f == g') = false := by simpa using q
      simp only [List.lookup_cons, hb] at h ⊢
      exact rva_lookup h1 h4 h
/-- n.f -/
def dXf (i : Nat) (cs : List Str) (f : Str) : M PyData := fun r => match r[i]? with
  | some (.ev e) => if cs.contains e.c then (match e.fs.lookup f with
    | some d => .ok d r
    | none => .st) else .st
  | _ => .st
theorem de_xf {f : Str} (T : XNo X.K cs f) (hz : Zc cls d oe) (hfl : ∃ vs, oe.data = .fields vs) (hi : X.N[i]? = some n) (hv : Vis X.env.scope n)
    (hd1 : (n == ("__debug__" : Str)) = false := by decide) (hd2 : (n == ("__classdict__" : Str)) = false := by decide) (hat : attributeBase (.Name n p2) f X.env (eval (.Name n p2) X.env) = eval (.Name n p2) X.env := by rfl) :
    DE (X.suite a ((a, oe) :: pn)) (TG.at ⟨a, cls, d⟩) W (.Attribute (.Name n p2) f pos) (dXf i cs f) := by
  refine ⟨fun pins s σ H Q I h => ?_⟩
  obtain ⟨B, F, G0, G, r, i0, p⟩ := h
  unfold dXf at p
  split at p
  · rename_i ex hex
    split at p
    · rename_i hc
      split at p
      · rename_i dv hl
        obtain ⟨z, hz', h1, h2⟩ := i0.evs i ex hex
        cases hz'
        obtain ⟨t, no⟩ := T ex.c (by simpa using hc)
        obtain ⟨en, efs⟩ := ex
        cases efs with
        | nil => cases hl
        | cons e0 es =>
          obtain ⟨ec, dd, vs, ed, hG, hnm, hrv⟩ := h2
          obtain ⟨u, hu, ru⟩ := rva_lookup hnm hrv hl
          exact (pe_xf ⟨t.ga, t.gg, t.sb, t.hd⟩ no hz hfl (pe_var (X := X.suite a ((a, oe) :: pn)) hi hv hd1 hd2) hat).run pins s σ H Q I ⟨.ref a, h1, rfl, ec, dd, vs, u, ed, i0.gh _ _ hG, hu, p G H u (.refl _) i0 ru⟩
      · exact p.elim
    · exact p.elim
  · exact p.elim
end
end TW

end
section
/-! what the head must find of such a class -/
namespace TW
open PySem PySem.Spec PyProof.Rows L2
def oexB (K : PySem.W.Frag) (C : Addr) : Bool := match K.lookup C with
  | some ⟨.type "type", _, .cls cd, sl⟩ => (match cd.mro, sl.toList with
    | .ref D :: tl, [_, _, _, _, some (.builtin z), _] => decide (D = C) && (decide (z = "ValueError.__new__") && (decide (cd.hasDel = false) && (decide (cd.hasDict = true) && PySem.HandSPX.refsVE tl)))
    | _, _ => false)
  | _ => false
def oexB2 (K : PySem.W.Frag) (C : Addr) : Bool := decide (PySem.W.findIn K (.ref C) "__setattr__" = some (some (.builtin "object.__setattr__"))) && (decide (PySem.W.subIn K (.ref C) (.type "BaseException") = some true) && (decide (PySem.W.typeIn K (.ref C) = some (.type "type")) && PySem.W.keepIn K (.ref C)))
theorem and_b {a b : Bool} (h : (a && b) = true) : a = true ∧ b = true := Bool.and_eq_true_iff.mp h
theorem oexB_ok {K : PySem.W.Frag} {C : Addr} (h : oexB K C = true) (h2 : oexB2 K C = true) : OexC K C := by
  obtain ⟨a1, h2⟩ := and_b h2
  obtain ⟨a2, h2⟩ := and_b h2
  obtain ⟨a3, a4⟩ := and_b h2
  refine ⟨?_, of_decide_eq_true a1, of_decide_eq_true a2, of_decide_eq_true a3, a4⟩
  unfold oexB at h
  split at h
  · rename_i dd cd sl ho
    split at h
    · rename_i D tl y0 y1 y2 y3 z y5 hm hs
      obtain ⟨b1, h⟩ := and_b h
      obtain ⟨b2, h⟩ := and_b h
      obtain ⟨b3, h⟩ := and_b h
      obtain ⟨b4, b5⟩ := and_b h
      replace b1 := of_decide_eq_true b1
      replace b2 := of_decide_eq_true b2
      replace b3 := of_decide_eq_true b3
      replace b4 := of_decide_eq_true b4
      subst b1 b2
      obtain ⟨u1, u2, u3, u4, u5, u6, u7, u8, u9, u10, u11⟩ := cd
      dsimp only at hm b3 b4
      subst hm b3 b4
      have e : sl = #[y0, y1, y2, y3, some (.builtin "ValueError.__new__"), y5] := by
        apply Array.toList_inj.mp
        exact hs
      subst e
      exact ⟨u1, u5, u4, u2, tl, u7, u8, u9, u10, dd, y0, y1, y2, y3, y5, ho, b5⟩
    · cases h
  · cases h
/-- x: the class, f: its field, ke: the class that the handler names -/
def xclsB (K : PySem.W.Frag) (x f : Str) : Bool := decide (PySem.W.nsIn K mainGlobals x = some (some (.ref (He.ga K x)))) && (oexB K (He.ga K x) && (oexB2 K (He.ga K x) && (decide (PySem.W.findIn K (.ref (He.ga K x)) "__init__" = some (some (.ref (He.ma K (He.ga K x) "__init__")))) &&
  (decide (PySem.W.typeIn K (.ref (He.ma K (He.ga K x) "__init__")) = some (.type "function")) && decide (PySem.W.findIn K (.ref (He.ga K x)) f = some none)))))
theorem xclsB_ok {K : PySem.W.Frag} {mg : Str → Option Value} {x f : Str} (hm : mg x = some (.ref (He.ga K x))) (h : xclsB K x f = true) : XCls K mg x f (He.ga K x) (He.ma K (He.ga K x) "__init__") := by
  obtain ⟨a1, h⟩ := and_b h
  obtain ⟨a2, h⟩ := and_b h
  obtain ⟨a3, h⟩ := and_b h
  obtain ⟨a4, h⟩ := and_b h
  obtain ⟨a5, a6⟩ := and_b h
  exact ⟨hm, of_decide_eq_true a1, oexB_ok a2 a3, of_decide_eq_true a4, of_decide_eq_true a5, of_decide_eq_true a6⟩
def xcls0B (K : PySem.W.Frag) (x : Str) : Bool := decide (PySem.W.nsIn K mainGlobals x = some (some (.ref (He.ga K x)))) && (PySem.W.excIn K (He.ga K x) [.type "ValueError", .type "Exception", .type "BaseException", .type "object"] "ValueError.__new__" && (PySem.W.keepIn K (.ref (He.ga K x)) &&
  (decide (PySem.W.subIn K (.ref (He.ga K x)) (.type "BaseException") = some true) && decide (PySem.W.typeIn K (.ref (He.ga K x)) = some (.type "type")))))
theorem xcls0B_ok {K : PySem.W.Frag} {mg : Str → Option Value} {x : Str} (hm : mg x = some (.ref (He.ga K x))) (h : xcls0B K x = true) : XCls0 K mg x (He.ga K x) := by
  obtain ⟨a1, h⟩ := and_b h
  obtain ⟨a2, h⟩ := and_b h
  obtain ⟨a3, h⟩ := and_b h
  obtain ⟨a4, a5⟩ := and_b h
  exact ⟨hm, of_decide_eq_true a1, a2, a3, of_decide_eq_true a4, of_decide_eq_true a5⟩
def xisB (K : PySem.W.Frag) (C : Addr) : Bool := (PySem.W.clsIn K C).isSome && (decide (PySem.W.findIn K (.ref C) "__getattribute__" = some (some (.builtin "BaseException.__getattribute__"))) && (decide (PySem.W.findIn K (.ref C) "__getattr__" = some none) &&
  (decide (PySem.W.subIn K (.ref C) (.type "BaseException") = some true) && (decide (PySem.W.findIn K (.ref C) "__class__" = some (some (.builtin "object.__class__"))) && (decide (PySem.W.specialIn K (.builtin "object.__class__") "__get__" = some (some (.builtin "getset_descriptor.__get__"))) &&
  (decide (PySem.W.takesIn K (.builtin "object.__class__") = some true) && (decide (PySem.W.mroIn K C (.type "object") = some true) && PySem.W.hasDictIn K C)))))))
theorem xisB_ok {K : PySem.W.Frag} {C : Addr} (h : xisB K C = true) : XIs K C := by
  obtain ⟨a1, h⟩ := and_b h
  obtain ⟨a2, h⟩ := and_b h
  obtain ⟨a3, h⟩ := and_b h
  obtain ⟨a4, h⟩ := and_b h
  obtain ⟨a5, h⟩ := and_b h
  obtain ⟨a6, h⟩ := and_b h
  obtain ⟨a7, h⟩ := and_b h
  obtain ⟨a8, a9⟩ := and_b h
  exact ⟨a1, of_decide_eq_true a2, of_decide_eq_true a3, of_decide_eq_true a4, of_decide_eq_true a5, of_decide_eq_true a6, of_decide_eq_true a7, of_decide_eq_true a8, a9⟩
def xkitB (K : PySem.W.Frag) (cs : List Str) (v : Value) (f : Str → Bool) : Bool := cs.all fun c => xisB K (clsAt K c) && decide (PySem.W.kitOne K (.ref (clsAt K c)) v = some (f c))
theorem xkitB_ok {K : PySem.W.Frag} {cs : List Str} {v : Value} {f : Str → Bool} (h : xkitB K cs v f = true) : XKit K cs v f := fun c hc => by
  obtain ⟨a, b⟩ := and_b (List.all_eq_true.mp h c hc)
  exact ⟨xisB_ok a, of_decide_eq_true b⟩
def xexmB (K : PySem.W.Frag) (cs : List Str) (v : Value) : Bool := cs.all fun c => decide (PySem.W.exmOne K (.ref (clsAt K c)) v = some true)
theorem xexmB_ok {K : PySem.W.Frag} {cs : List Str} {v : Value} (h : xexmB K cs v = true) : XExm K cs v := fun c hc => of_decide_eq_true (List.all_eq_true.mp h c hc)
def xnoB (K : PySem.W.Frag) (cs : List Str) (f : Str) : Bool := cs.all fun c => xisB K (clsAt K c) && decide (PySem.W.findIn K (.ref (clsAt K c)) f = some none)
theorem xnoB_ok {K : PySem.W.Frag} {cs : List Str} {f : Str} (h : xnoB K cs f = true) : XNo K cs f := fun c hc => by
  obtain ⟨a, b⟩ := and_b (List.all_eq_true.mp h c hc)
  exact ⟨xisB_ok a, of_decide_eq_true b⟩
end TW

end
section
/-! the end: from what a law's def computes to the law. -/
namespace TW
open PySem PySem.Spec PyProof.Rows L2
theorem code_is {K : PySem.W.Frag} {x qual : Str} {params : Arguments} {body : List Stmt} {scope : Scope} {dvs : List V} {kws : List (Str × V)} {p : He.Defn} {fd : FuncData} (F : FunD K x qual params body scope dvs kws (He.fAd K p) fd) : fd.code = .ref (He.cT K p).1 := by
  obtain ⟨oc, od, dV, kV, doc, pm, an, cdv, ct, osl, rfl, lk, hcd, _, _⟩ := F.ex
  obtain ⟨c, rfl⟩ := He.codeIn_ref hcd
  have e := He.codeOf_eq (c := c) lk rfl
  show (Value.ref c : Value) = .ref (He.codeOf K p)
  rw [e]
/-- the values' part of a heap: all but the tables -/
def noTab (H : Hp) : Hp := fun b => match H b with
  | some (.tbl _) => none
  | x => x
theorem noTab_same {H : Hp} : Same (noTab H) H := fun b u e => by
  unfold noTab at e
  split at e
  · cases e
  · exact e
theorem noTab_keep {H : Hp} {b : Addr} {u : HO} (e : H b = some u) (h : ∀ ps, u ≠ .tbl ps) : noTab H b = some u := by
  unfold noTab
  split
  · rename_i ps q
    rw [e] at q
    cases q
    exact absurd rfl (h ps)
  · exact e
theorem seq_noTab {K : PySem.W.Frag} {H : Hp} {a : Addr} {xs : List V} (h : SqL K H a xs) : SqL K (noTab H) a xs := by
  rcases h with (h | ⟨o, h⟩) | h
  · exact .inl (.inl (noTab_keep h fun _ e => by cases e))
  · exact .inl (.inr ⟨o, noTab_keep h fun _ e => by cases e⟩)
  · exact .inr h
theorem law_sp {K : PySem.W.Frag} {TG : TGx} {D : M PyData} {H : Hp} {a : Addr} {ns : List Int} {r : List Sl} (tb : ∀ z ∈ TG, H z.P = some (.tbl #[])) (hS : SqL K H a (ns.map V.int)) (e : D [.v (scr ns)] = .ok (.bool true) r) :
    SpOf K TG 1 D [.ref a] H (fun v _ => v = .bl true) fun _ _ _ => False := by
  refine ⟨rfl, [], fun _ => none, noTab H, noTab H, [.v (scr ns)], ?_, ?_⟩
  · refine ⟨rfl, noTab_same, fun _ _ q => (by cases q), .refl _, fun _ _ _ => .inl rfl, fun b ps q => ?_, fun _ _ q => (by cases q), fun P hP => ⟨_, tb P hP, ?_, fun q _ pos cv hc => by simp [codeAmong] at hc⟩, fun i d q => ?_, fun i ds q => ?_, fun i j b ds es n q1 q2 => ?_, fun p hp => (by cases hp), fun k e q => ?_⟩
    · unfold noTab at q
      split at q
      · cases q
      · rename_i h
        exact h ps q
    · first | exact trivial | exact .nil | (intro _ h; cases h) | simp [TriplesOk]
    · cases i with
      | zero =>
        cases q
        exact ⟨_, rfl, .inl ⟨a, ns, rfl, rfl, seq_noTab hS⟩⟩
      | succ i => simp at q
    · cases i with
      | zero => simp [Sl.own] at q
      | succ i => simp at q
    · cases i with
      | zero => simp [Sl.own] at q1
      | succ i => simp at q1
    · cases k with
      | zero => cases q
      | succ i => simp at q
  · rw [e]
    exact fun G' H' v s e' i' hv => hv
/-- the end of a law whose run is told by D -/
theorem law_at {l : PySem.W.OpenLaw} {w : World} {K : PySem.W.Frag} {h : Heap} {mg : Str → Option Value} {f : Addr} {fd : FuncData} {k n : Nat} {x : Str} {tf : List He.Defn} {D : M PyData} {kq : He.Defn → Option Str}
    (hT : ∀ p ∈ tf, h.get? (He.cT K p).2 = some { cls := .none, data := .fields #[] }) (nT : ∀ p ∈ tf, K.lookup (He.cT K p).2 = none) (hC : ∀ p ∈ tf, PySem.W.codeHdIn K (He.cT K p).1 (He.cT K p).2 = true) (X : K.In h)
    (hb : ∀ (s : Shared) (u : Value), BindsTo s fd ⟨[u], []⟩ [(x, u)])
    (hD : ∀ ns : List Int, ns.length ≤ n → (∀ z ∈ ns, Builtin.Int.intBits z ≤ 1048576) → ∃ r, D [.v (scr ns)] = .ok (.bool true) r)
    (hF : ∀ base : Heap, K.In base → base.Ns mainGlobals mg → (∀ p ∈ tf, GxR.TabB base mg (He.cT K p).1 (He.cT K p).2) → FnOk l.prog w K mg base (L2.CX l.prog w) k f fd [x] (SpOf K (tgOf w (tf.map fun p => (⟨(He.cT K p).2, kq p⟩ : TbK))) 1 D)) :
    LamX.LawAtS l w K (L2.CX l.prog w) k n x mg f h := by
  refine ⟨fd, tf.map (He.cT K), SpOf K (tgOf w (tf.map fun p => (⟨(He.cT K p).2, kq p⟩ : TbK))) 1 D, fun p hp => ?_, fun p hp => ?_, fun p hp => ?_, hb, fun H a ns hl hz ht hS => ?_, fun base X' G' T => hF base X' G' fun p hp => ?_⟩
  · obtain ⟨q, hq, rfl⟩ := List.mem_map.mp hp; exact hT q hq
  · obtain ⟨q, hq, rfl⟩ := List.mem_map.mp hp; exact nT q hq
  · obtain ⟨q, hq, rfl⟩ := List.mem_map.mp hp; exact PySem.W.codeHd_of_K X (hC q hq)
  · obtain ⟨r, e⟩ := hD ns hl hz
    refine law_sp (fun P hP => ?_) hS e
    obtain ⟨q, hq, rfl⟩ := List.mem_map.mp hP
    exact ht _ (List.mem_map.mpr ⟨q, hq, rfl⟩)
  · have t := T _ (List.mem_map.mpr ⟨p, hp, rfl⟩)
    exact ⟨t.code, t.bm, t.gP⟩
theorem cx_never {P : Program} (w : World) (H : Hp) (s : Shared) (e : Value) (s' : Shared) (h : L2.CX P w [] H s (fun _ _ _ => False) e s') : False := by
  obtain ⟨_, _, _, _, _, _, _, _, _, _, _, _, h⟩ := h
  exact h.elim
/-! a run that asks the world one thing: both answers are run -/
def setFt (w : World) (b : Bool) : World := { w with params := { w.params with followText := fun s => if s = "special-get-raises" then b else w.params.followText s } }
theorem setFt_eq (w : World) : setFt w (w.params.followText "special-get-raises") = w := by
  have e : (fun s => if s = "special-get-raises" then w.params.followText "special-get-raises" else w.params.followText s) = w.params.followText := by
    funext s
    split
    · rename_i h
      rw [h]
    · rfl
  unfold setFt
  rw [e]
theorem run_ft {p : World → Prop} (h : ∀ w b, p (setFt w b)) (w : World) : p w := by
  have := h w (w.params.followText "special-get-raises")
  rwa [setFt_eq] at this
/-- the run's equation from its three parts -/
theorem runEq_of {r : PySem.W.OpenRow} {q : Program} {H : PySem.W.Hook} {ob : PySem.W.SharedT → H.α} {M : Nat} {loose : List Str} {w : World}
    (h1 : ∀ os, (HandSHeadRun.endF (HandSHeadRun.stepQ (HandSHeadRun.denQ HandSHeadRun.tabQ) r.prog w) M r.prog w os).map (fun s => HandSHeadRun.looksF r.prog (PySem.W.boot_heap w.params) s.abs) = some true)
    (h2 : ∀ os, (HandSHeadRun.endF (HandSHeadRun.stepQ (HandSHeadRun.denQ HandSHeadRun.tabQ) r.prog w) M r.prog w os).map (fun s => HandSHeadRun.seenQ q loose (PySem.importedModules r.prog.main.body) (fun s => PySem.W.xlAt q [] s && PySem.W.recOk r.toRowW.records s) s.abs) = some (PySem.W.openGood q loose))
    (h3 : ∀ os, (HandSHeadRun.endF (HandSHeadRun.stepQ (HandSHeadRun.denQ HandSHeadRun.tabQ) r.prog w) M r.prog w os).map ob = some (H.val w)) : HandSHeadRun.RunEq r q H ob M loose w := fun os => by
  have e1 := h1 os
  have e2 := h2 os
  have e3 := h3 os
  revert e1 e2 e3
  cases HandSHeadRun.endF (HandSHeadRun.stepQ (HandSHeadRun.denQ HandSHeadRun.tabQ) r.prog w) M r.prog w os with
  | none => intro e1; cases e1
  | some s =>
    intro e1 e2 e3
    simp only [Option.map_some, Option.some.injEq] at e1 e2 e3 ⊢
    rw [e1, e2, e3]
end TW

end
section
/-! printed by pr3.py: constants, the head -/
namespace K70
open PySem PySem.Spec PyProof.Rows L2 TW
def con_FIGURES : PyData := .str "0123456789"
def con_HIDDEN : PyData := .tuple [.str "in", .str "inout"]
def con_KINDS_tales : PyData := .tuple [.str "put", .str "front", .str "chop", .str "behead", .str "take", .str "turn"]
def con_MOST_ANSWER : PyData := .int (3)
def con_MOST_COUNT : PyData := .int (20)
def con_MOST_EDITS : PyData := .int (100)
def con_MOST_KEEPER : PyData := .int (3000)
def con_MOST_LETTERS : PyData := .int (3)
def con_MOST_STATES : PyData := .int (40)
def con_MOST_TEXT : PyData := .int (60)
def con_NAMES : PyData := .str "abc"
def con_ONE_TO_ONE : PyData := .tuple [.str "stack", .str "deque", .str "inout"]
def con_ORDERLESS : PyData := .tuple [.str "in", .str "inout"]
def con_WORLDS : PyData := .tuple [.str "end", .str "ends", .str "stack", .str "deque", .str "in", .str "inout", .str "relabel", .str "reverse"]
def tab_KINDS_worlds : List (Str × PyData) := [("end", .tuple [.str "put"]), ("ends", .tuple [.str "front", .str "put"]), ("stack", .tuple [.str "chop", .str "put"]), ("deque", .tuple [.str "behead", .str "chop", .str "front", .str "put"]), ("in", .tuple [.str "put"]), ("inout", .tuple [.str "put", .str "take"]), ("relabel", .tuple [.str "put"]), ("reverse", .tuple [.str "put"])]
def cs_all : List Str := ["BadEdits", "BadKeeper", "BadNumber", "BadQuestion", "BadString", "BadWorld", "NoKeeper"]
def kf_BadNumber : Str → Bool := fun c => (["BadNumber"] : List Str).contains c
def kf_BadWorld : Str → Bool := fun c => (["BadWorld"] : List Str).contains c
def kf_BadAsk : Str → Bool := fun c => ([] : List Str).contains c
def kf_BadEdits : Str → Bool := fun c => (["BadEdits"] : List Str).contains c
def kf_BadQuestion : Str → Bool := fun c => (["BadQuestion"] : List Str).contains c
def kf_BadKeeper : Str → Bool := fun c => (["BadKeeper"] : List Str).contains c
def kf_BadString : Str → Bool := fun c => (["BadString"] : List Str).contains c
def kf_BadMessages : Str → Bool := fun c => ([] : List Str).contains c
def kf_BadText : Str → Bool := fun c => ([] : List Str).contains c
def kf_Answerable : Str → Bool := fun c => ([] : List Str).contains c
def kf_NoKeeper : Str → Bool := fun c => (["NoKeeper"] : List Str).contains c
def kf_ValueError : Str → Bool := fun c => (["BadEdits", "BadKeeper", "BadNumber", "BadQuestion", "BadString", "BadWorld", "NoKeeper"] : List Str).contains c
def top (i : Nat) : Stmt := PySem.Challenge.pw_toldwhat_k70_counts_and_tales_refused.main.body.getD i (.Pass ⟨0, 0, 0, 0⟩)
def cdef (i : Nat) : Stmt := match top i with
  | .ClassDef _ _ _ b _ _ _ _ _ _ _ => b.getD 0 (.Pass ⟨0, 0, 0, 0⟩)
  | _ => .Pass ⟨0, 0, 0, 0⟩
def dd__law_error : He.DefD := ⟨("_law_error", none), "_law_error", "_law_error", defArgs (top 84), defBody (top 84), defScope (top 84), [], []⟩
def dd__law_taken : He.DefD := ⟨("_law_taken", none), "_law_taken", "_law_taken", defArgs (top 82), defBody (top 82), defScope (top 82), [], []⟩
def dd__law_pick : He.DefD := ⟨("_law_pick", none), "_law_pick", "_law_pick", defArgs (top 83), defBody (top 83), defScope (top 83), [], []⟩
def dd_parted : He.DefD := ⟨("parted", none), "parted", "parted", defArgs (top 24), defBody (top 24), defScope (top 24), [], []⟩
def dd_shrunk : He.DefD := ⟨("shrunk", none), "shrunk", "shrunk", defArgs (top 25), defBody (top 25), defScope (top 25), [], []⟩
def dd_least_of : He.DefD := ⟨("least_of", none), "least_of", "least_of", defArgs (top 26), defBody (top 26), defScope (top 26), [], []⟩
def dd_is_number : He.DefD := ⟨("is_number", none), "is_number", "is_number", defArgs (top 20), defBody (top 20), defScope (top 20), [], []⟩
def dd_need_counts : He.DefD := ⟨("need_counts", none), "need_counts", "need_counts", defArgs (top 31), defBody (top 31), defScope (top 31), [], []⟩
def dd_are_steps : He.DefD := ⟨("are_steps", none), "are_steps", "are_steps", defArgs (top 21), defBody (top 21), defScope (top 21), [], []⟩
def dd_need_question : He.DefD := ⟨("need_question", none), "need_question", "need_question", defArgs (top 22), defBody (top 22), defScope (top 22), [], []⟩
def dd_all_below : He.DefD := ⟨("all_below", none), "all_below", "all_below", defArgs (top 32), defBody (top 32), defScope (top 32), [], []⟩
def dd_ways_to : He.DefD := ⟨("ways_to", none), "ways_to", "ways_to", defArgs (top 33), defBody (top 33), defScope (top 33), [], []⟩
def dd_arrangements : He.DefD := ⟨("arrangements", none), "arrangements", "arrangements", defArgs (top 34), defBody (top 34), defScope (top 34), [], []⟩
def dd_led : He.DefD := ⟨("led", none), "led", "led", defArgs (top 23), defBody (top 23), defScope (top 23), [], []⟩
def dd_letter_maps : He.DefD := ⟨("letter_maps", none), "letter_maps", "letter_maps", defArgs (top 28), defBody (top 28), defScope (top 28), [], []⟩
def dd_are_one_to_one : He.DefD := ⟨("are_one_to_one", none), "are_one_to_one", "are_one_to_one", defArgs (top 57), defBody (top 57), defScope (top 57), [], []⟩
def dd_then : He.DefD := ⟨("then", none), "then", "then", defArgs (top 27), defBody (top 27), defScope (top 27), [], []⟩
def dd_do_commute : He.DefD := ⟨("do_commute", none), "do_commute", "do_commute", defArgs (top 58), defBody (top 58), defScope (top 58), [], []⟩
def dd_can : He.DefD := ⟨("can", none), "can", "can", defArgs (top 59), defBody (top 59), defScope (top 59), [], []⟩
def dd_done : He.DefD := ⟨("done", none), "done", "done", defArgs (top 50), defBody (top 50), defScope (top 50), [], []⟩
def dd_orders : He.DefD := ⟨("orders", none), "orders", "orders", defArgs (top 44), defBody (top 44), defScope (top 44), [], []⟩
def dd_all_messages : He.DefD := ⟨("all_messages", none), "all_messages", "all_messages", defArgs (top 45), defBody (top 45), defScope (top 45), [], []⟩
def dd_memories : He.DefD := ⟨("memories", none), "memories", "memories", defArgs (top 65), defBody (top 65), defScope (top 65), [], []⟩
def dd_message_of : He.DefD := ⟨("message_of", none), "message_of", "message_of", defArgs (top 46), defBody (top 46), defScope (top 46), [], []⟩
def dd_is_like : He.DefD := ⟨("is_like", none), "is_like", "is_like", defArgs (top 48), defBody (top 48), defScope (top 48), [], []⟩
def dd_is_edit : He.DefD := ⟨("is_edit", none), "is_edit", "is_edit", defArgs (top 49), defBody (top 49), defScope (top 49), [], []⟩
def dd_first_wrong_edit : He.DefD := ⟨("first_wrong_edit", none), "first_wrong_edit", "first_wrong_edit", defArgs (top 51), defBody (top 51), defScope (top 51), [], []⟩
def dd_need_edits : He.DefD := ⟨("need_edits", none), "need_edits", "need_edits", defArgs (top 52), defBody (top 52), defScope (top 52), [], []⟩
def dd_need_world : He.DefD := ⟨("need_world", none), "need_world", "need_world", defArgs (top 43), defBody (top 43), defScope (top 43), [], []⟩
def dd_made : He.DefD := ⟨("made", none), "made", "made", defArgs (top 62), defBody (top 62), defScope (top 62), [], []⟩
def dd_right_keeper : He.DefD := ⟨("right_keeper", none), "right_keeper", "right_keeper", defArgs (top 63), defBody (top 63), defScope (top 63), [], []⟩
def dd_tale : He.DefD := ⟨("tale", none), "tale", "tale", defArgs (top 76), defBody (top 76), defScope (top 76), [], []⟩
def dd_is_kept_true : He.DefD := ⟨("is_kept_true", none), "is_kept_true", "is_kept_true", defArgs (top 77), defBody (top 77), defScope (top 77), [], []⟩
def dd_is_sure : He.DefD := ⟨("is_sure", none), "is_sure", "is_sure", defArgs (top 36), defBody (top 36), defScope (top 36), [], []⟩
def dd_possible : He.DefD := ⟨("possible", none), "possible", "possible", defArgs (top 35), defBody (top 35), defScope (top 35), [], []⟩
def dd_figure_of : He.DefD := ⟨("figure_of", none), "figure_of", "figure_of", defArgs (top 79), defBody (top 79), defScope (top 79), [], []⟩
def dd_need_keeper : He.DefD := ⟨("need_keeper", none), "need_keeper", "need_keeper", defArgs (top 64), defBody (top 64), defScope (top 64), [], []⟩
def dd_need_letters : He.DefD := ⟨("need_letters", none), "need_letters", "need_letters", defArgs (top 47), defBody (top 47), defScope (top 47), [], []⟩
def dd_read_keeper : He.DefD := ⟨("read_keeper", none), "read_keeper", "read_keeper", defArgs (top 80), defBody (top 80), defScope (top 80), [], []⟩
def dd_letter_of : He.DefD := ⟨("letter_of", none), "letter_of", "letter_of", defArgs (top 72), defBody (top 72), defScope (top 72), [], []⟩
def dd_place_of : He.DefD := ⟨("place_of", none), "place_of", "place_of", defArgs (top 73), defBody (top 73), defScope (top 73), [], []⟩
def dd_edit_of : He.DefD := ⟨("edit_of", none), "edit_of", "edit_of", defArgs (top 74), defBody (top 74), defScope (top 74), [], []⟩
def dd_read_tale : He.DefD := ⟨("read_tale", none), "read_tale", "read_tale", defArgs (top 75), defBody (top 75), defScope (top 75), [], []⟩
def dd_sure_counts : He.DefD := ⟨("sure_counts", none), "sure_counts", "sure_counts", defArgs (top 37), defBody (top 37), defScope (top 37), [], []⟩
def dd_write_keeper : He.DefD := ⟨("write_keeper", none), "write_keeper", "write_keeper", defArgs (top 78), defBody (top 78), defScope (top 78), [], []⟩
def dd_words_of : He.DefD := ⟨("words_of", none), "words_of", "words_of", defArgs (top 70), defBody (top 70), defScope (top 70), [], []⟩
def dd_write_tale : He.DefD := ⟨("write_tale", none), "write_tale", "write_tale", defArgs (top 71), defBody (top 71), defScope (top 71), [], []⟩
def dd_law : He.DefD := ⟨("law", none), "law", "law", defArgs (top 85), defBody (top 85), defScope (top 85), [], []⟩
def ddI_BadEdits : He.DefD := ⟨("BadEdits", some "__init__"), "__init__", "BadEdits.__init__", defArgs (cdef 5), defBody (cdef 5), defScope (cdef 5), [], []⟩
def ddI_BadKeeper : He.DefD := ⟨("BadKeeper", some "__init__"), "__init__", "BadKeeper.__init__", defArgs (cdef 7), defBody (cdef 7), defScope (cdef 7), [], []⟩
def ddI_BadQuestion : He.DefD := ⟨("BadQuestion", some "__init__"), "__init__", "BadQuestion.__init__", defArgs (cdef 2), defBody (cdef 2), defScope (cdef 2), [], []⟩
def hfn : List He.DefD := [dd__law_error, dd__law_taken, dd__law_pick, dd_parted, dd_shrunk, dd_least_of, dd_is_number, dd_need_counts, dd_are_steps, dd_need_question, dd_all_below, dd_ways_to, dd_arrangements, dd_led, dd_letter_maps, dd_are_one_to_one, dd_then, dd_do_commute, dd_can, dd_done, dd_orders, dd_all_messages, dd_memories, dd_message_of, dd_is_like, dd_is_edit, dd_first_wrong_edit, dd_need_edits, dd_need_world, dd_made, dd_right_keeper, dd_tale, dd_is_kept_true, dd_is_sure, dd_possible, dd_figure_of, dd_need_keeper, dd_need_letters, dd_read_keeper, dd_letter_of, dd_place_of, dd_edit_of, dd_read_tale, dd_sure_counts, dd_write_keeper, dd_words_of, dd_write_tale, dd_law, ddI_BadEdits, ddI_BadKeeper, ddI_BadQuestion]
def hfa : List He.Fa := [.glo "_law_error", .glo "_law_taken", .glo "_law_pick", .glo "parted", .glo "shrunk", .glo "least_of", .glo "is_number", .glo "need_counts", .glo "are_steps", .glo "need_question", .glo "all_below", .glo "ways_to", .glo "arrangements", .glo "led", .glo "letter_maps", .glo "are_one_to_one", .glo "then", .glo "do_commute", .glo "can", .glo "done", .glo "orders", .glo "all_messages", .glo "memories", .glo "message_of", .glo "is_like", .glo "is_edit", .glo "first_wrong_edit", .glo "need_edits", .glo "need_world", .glo "made", .glo "right_keeper", .glo "tale", .glo "is_kept_true", .glo "is_sure", .glo "possible", .glo "figure_of", .glo "need_keeper", .glo "need_letters", .glo "read_keeper", .glo "letter_of", .glo "place_of", .glo "edit_of", .glo "read_tale", .glo "sure_counts", .glo "write_keeper", .glo "words_of", .glo "write_tale", .glo "law", .free "ValueError", .free "all", .free "any", .free "bool", .free "enumerate", .free "int", .free "isinstance", .free "len", .free "list", .free "range", .free "set", .free "sorted", .free "str", .free "sum", .free "tuple", .free "zip", .glo "KINDS_worlds", .glo "BadEdits", .glo "BadKeeper", .glo "BadNumber", .glo "BadQuestion", .glo "BadString", .glo "BadWorld", .glo "NoKeeper", .glo "KeeperError", .glo "BadAsk", .glo "BadMessages", .glo "BadText", .glo "Answerable"]
def hts : List He.Tab := [(fun K => He.ga K "KINDS_worlds", ["end", "ends", "stack", "deque", "in", "inout", "relabel", "reverse"])]
def htf : List He.Defn := [("are_steps", none), ("need_question", none), ("are_one_to_one", none), ("do_commute", none), ("is_like", none), ("is_edit", none), ("need_keeper", none), ("law", none)]
def hex (K : PySem.W.Frag) : Bool := (decide ((htf.map fun p => (He.cT K p).2).Nodup) && (TW.conB K "FIGURES" con_FIGURES && (TW.conB K "HIDDEN" con_HIDDEN && (TW.conB K "KINDS_tales" con_KINDS_tales && (TW.conB K "MOST_ANSWER" con_MOST_ANSWER && (TW.conB K "MOST_COUNT" con_MOST_COUNT && (TW.conB K "MOST_EDITS" con_MOST_EDITS && (TW.conB K "MOST_KEEPER" con_MOST_KEEPER && (TW.conB K "MOST_LETTERS" con_MOST_LETTERS && (TW.conB K "MOST_STATES" con_MOST_STATES && (TW.conB K "MOST_TEXT" con_MOST_TEXT && (TW.conB K "NAMES" con_NAMES && (TW.conB K "ONE_TO_ONE" con_ONE_TO_ONE && (TW.conB K "ORDERLESS" con_ORDERLESS && (TW.conB K "WORLDS" con_WORLDS && (TW.ktB K "KINDS_worlds" tab_KINDS_worlds && (TW.xclsB K "BadEdits" "index" && (TW.xclsB K "BadKeeper" "index" && (TW.xclsB K "BadQuestion" "part" && (TW.xcls0B K "BadNumber" && (TW.xcls0B K "BadString" && (TW.xcls0B K "BadWorld" && (TW.xcls0B K "NoKeeper" && (TW.xexmB K cs_all (.ref (He.ga K "KeeperError")) && (TW.xkitB K cs_all (.ref (He.ga K "BadNumber")) kf_BadNumber && (TW.xkitB K cs_all (.ref (He.ga K "BadWorld")) kf_BadWorld && (TW.xkitB K cs_all (.ref (He.ga K "BadAsk")) kf_BadAsk && (TW.xkitB K cs_all (.ref (He.ga K "BadEdits")) kf_BadEdits && (TW.xkitB K cs_all (.ref (He.ga K "BadQuestion")) kf_BadQuestion && (TW.xkitB K cs_all (.ref (He.ga K "BadKeeper")) kf_BadKeeper && (TW.xkitB K cs_all (.ref (He.ga K "BadString")) kf_BadString && (TW.xkitB K cs_all (.ref (He.ga K "BadMessages")) kf_BadMessages && (TW.xkitB K cs_all (.ref (He.ga K "BadText")) kf_BadText && (TW.xkitB K cs_all (.ref (He.ga K "Answerable")) kf_Answerable && (TW.xkitB K cs_all (.ref (He.ga K "NoKeeper")) kf_NoKeeper && (TW.xkitB K cs_all (.type "ValueError") kf_ValueError && true))))))))))))))))))))))))))))))))))))
abbrev R : PySem.W.OpenRow := PySem.W.OpenLaw.row PySem.Challenge.rw_toldwhat_k70_counts_and_tales_refused
abbrev hk : PySem.W.Hook := He.hookX 4 hfa hfn hts htf hex
def ob (s : PySem.W.SharedT) : He.AlX := He.obsX 4 hfa hfn hts htf hex (HandSHeadRun.getT s)
theorem ob_eq (s : PySem.W.SharedT) : ob s = hk.obs s.abs := He.obsX_eq (HandSHeadRun.getT_eq s)
def loose : List Str := ("KeeperError" : Str) :: ("BadQuestion" : Str) :: ("BadText" : Str) :: ("BadWorld" : Str) :: ("BadEdits" : Str) :: ("BadMessages" : Str) :: ("BadKeeper" : Str) :: ("BadNumber" : Str) :: ("NoKeeper" : Str) :: ("Answerable" : Str) :: ("TooMany" : Str) :: ("BadAsk" : Str) :: ("BadLine" : Str) :: ("BadString" : Str) :: ("MOST_LETTERS" : Str) :: ("MOST_STATES" : Str) :: ("MOST_ANSWER" : Str) :: ("MOST_TEXT" : Str) :: ("is_number" : Str) :: ("are_steps" : Str) :: ("need_question" : Str) :: ("led" : Str) :: ("parted" : Str) :: ("shrunk" : Str) :: ("least_of" : Str) :: ("then" : Str) :: ("letter_maps" : Str) :: ("MOST_COUNT" : Str) :: ("need_counts" : Str) :: ("all_below" : Str) :: ("ways_to" : Str) :: ("arrangements" : Str) :: ("possible" : Str) :: ("is_sure" : Str) :: ("sure_counts" : Str) :: ("WORLDS" : Str) :: ("KINDS_worlds" : Str) :: ("HIDDEN" : Str) :: ("MOST_EDITS" : Str) :: ("need_world" : Str) :: ("orders" : Str) :: ("all_messages" : Str) :: ("message_of" : Str) :: ("need_letters" : Str) :: ("is_like" : Str) :: ("is_edit" : Str) :: ("done" : Str) :: ("first_wrong_edit" : Str) :: ("need_edits" : Str) :: ("MOST_KEEPER" : Str) :: ("ONE_TO_ONE" : Str) :: ("ORDERLESS" : Str) :: ("are_one_to_one" : Str) :: ("do_commute" : Str) :: ("can" : Str) :: ("turned_back" : Str) :: ("Maker" : Str) :: ("made" : Str) :: ("right_keeper" : Str) :: ("need_keeper" : Str) :: ("memories" : Str) :: ("NAMES" : Str) :: ("FIGURES" : Str) :: ("KINDS_tales" : Str) :: ("words_of" : Str) :: ("write_tale" : Str) :: ("letter_of" : Str) :: ("place_of" : Str) :: ("edit_of" : Str) :: ("read_tale" : Str) :: ("tale" : Str) :: ("is_kept_true" : Str) :: ("write_keeper" : Str) :: ("figure_of" : Str) :: ("read_keeper" : Str) :: ("_law_taken" : Str) :: ("_law_pick" : Str) :: ("_law_error" : Str) :: []
end K70

end
section
/-! printed by pr3.py: the top run -/
namespace K70
open PySem PySem.Spec PyProof.Rows L2 TW
theorem run_a_false (w : World) (os : OsState) : (HandSHeadRun.endF (HandSHeadRun.stepQ (HandSHeadRun.denQ HandSHeadRun.tabQ) R.prog (TW.setFt w false)) 20000 R.prog (TW.setFt w false) os).map (fun s => HandSHeadRun.looksF R.prog (PySem.W.boot_heap (TW.setFt w false).params) s.abs) = some true := by kernel_rfl
theorem run_b_false (w : World) (os : OsState) : (HandSHeadRun.endF (HandSHeadRun.stepQ (HandSHeadRun.denQ HandSHeadRun.tabQ) R.prog (TW.setFt w false)) 20000 R.prog (TW.setFt w false) os).map (fun s => HandSHeadRun.seenQ (PySem.W.view R.prog [85]) loose (PySem.importedModules R.prog.main.body) (fun s => PySem.W.xlAt (PySem.W.view R.prog [85]) [] s && PySem.W.recOk R.toRowW.records s) s.abs) = some (PySem.W.openGood (PySem.W.view R.prog [85]) loose) := by kernel_rfl
theorem run_c_false (w : World) (os : OsState) : (HandSHeadRun.endF (HandSHeadRun.stepQ (HandSHeadRun.denQ HandSHeadRun.tabQ) R.prog (TW.setFt w false)) 20000 R.prog (TW.setFt w false) os).map ob = some (hk.val (TW.setFt w false)) := by kernel_rfl
theorem run_a_true (w : World) (os : OsState) : (HandSHeadRun.endF (HandSHeadRun.stepQ (HandSHeadRun.denQ HandSHeadRun.tabQ) R.prog (TW.setFt w true)) 20000 R.prog (TW.setFt w true) os).map (fun s => HandSHeadRun.looksF R.prog (PySem.W.boot_heap (TW.setFt w true).params) s.abs) = some true := by kernel_rfl
theorem run_b_true (w : World) (os : OsState) : (HandSHeadRun.endF (HandSHeadRun.stepQ (HandSHeadRun.denQ HandSHeadRun.tabQ) R.prog (TW.setFt w true)) 20000 R.prog (TW.setFt w true) os).map (fun s => HandSHeadRun.seenQ (PySem.W.view R.prog [85]) loose (PySem.importedModules R.prog.main.body) (fun s => PySem.W.xlAt (PySem.W.view R.prog [85]) [] s && PySem.W.recOk R.toRowW.records s) s.abs) = some (PySem.W.openGood (PySem.W.view R.prog [85]) loose) := by kernel_rfl
theorem run_c_true (w : World) (os : OsState) : (HandSHeadRun.endF (HandSHeadRun.stepQ (HandSHeadRun.denQ HandSHeadRun.tabQ) R.prog (TW.setFt w true)) 20000 R.prog (TW.setFt w true) os).map ob = some (hk.val (TW.setFt w true)) := by kernel_rfl
theorem run (w : World) : HandSHeadRun.RunEq R (PySem.W.view R.prog [85]) hk ob 20000 loose w := TW.run_ft (p := fun w => HandSHeadRun.RunEq R (PySem.W.view R.prog [85]) hk ob 20000 loose w) (fun w b => by cases b; exact TW.runEq_of (run_a_false w) (run_b_false w) (run_c_false w); exact TW.runEq_of (run_a_true w) (run_b_true w) (run_c_true w)) w
end K70

end
section
/-! list(reversed(x)) -/
namespace RT
open PySem PySem.Spec PyProof.Rows
section
variable {prog : Program} {w : World} {A : Around} {E : Value → Shared → Prop} {s : Shared}
theorem tw_extRev {R : Result → Shared → Prop} {it l : Addr} {items : Array Value} (hh : A.handled = none) (hit : s.heap.IsRevIter it l ((items.size : Int) - 1)) (hl : s.heap.IsList l items) (hne : l ≠ it) (hn : items.size ≤ sizeLine)
    (S : Addr) (h1 : S ≠ it) (h2 : S ≠ l) (res : Value) (c0 : Nat) (hS : s.heap.get? S = some { cls := .type "list", data := .seq #[] c0 })
    (hR : ∀ g tk acc c1, (∀ b o, b ≠ S → b ≠ it → s.heap.get? b = some o → g.get? b = some o) → g.get? S = some { cls := .type "list", dict := none, data := .seq acc c1, slots := #[] } → ItemsOf (fun i v => items[items.size - 1 - i]? = some v) acc items.size → R (.ok (.ret res)) { s with heap := g, toks := tk }) :
    wpAny (model prog w) A.in1 (Builtin.List.listExtendWith (.ref S) (.ref it) res)
      (fun fin t => match fin with | .done f => R (.ok f) t | .again c1 => c1.quiet = true ∧ codeAny (model prog w) A c1 R t) (fun e t => R (.error e) t) s := by
  have W := (Walks.listRev (prog := prog) (w := w) (A := A.in1) hh it l hne items).toS
  have nin : S ∉ [it, l] := by simp [h1, h2]
  have ty : s.TypeIs (.ref it) "list_reverseiterator" := Heap.IsRevIter.typeIs hit
  have ns : Builtin.List.listSameRef (.ref S) (.ref it) = false := by simp [Builtin.List.listSameRef, h1]
  unfold Builtin.List.listExtendWith
  refine wpAny_bind (wpAny_typeOf ty ?_)
  rw [if_neg (by rw [ns]; decide)]
  refine wpAny_bind (wpAny_pyIter_revIter hit (wpAny_bind (wpAny_holding ?_)))
  unfold Builtin.List.listLengthHint
  refine wpAny_bind (wpAny_specialOf ty nolen_lri ?_)
  show wpAny _ A.in1 (specialOf (Value.ref it) (Str.ofString "__length_hint__") >>= _) _ _ _
  refine wpAny_bind (wpAny_specialOf ty hint_lri ?_)
  generalize hid : ("list_reverseiterator.__length_hint__" : String) = nm
  wp_delta
  rw [show splitId nm = some ("list_reverseiterator", "__length_hint__") from by subst hid; decide +kernel]
  subst hid
  refine wpAny_bind (wpAny_isInstance (b := true) ty (by rw [isSubtype_type]; kernel_rfl) (wpAny_pure ?_))
  rw [if_neg (by decide)]
  have z : ((items.size : Nat) : Int) - 1 - ((0 : Nat) : Int) = (items.size : Int) - 1 := by omega
  refine wpAny_pure ⟨plainId_quiet F.plain_extend_loop _, codeAny_extend_loopS W hn S nin res items.size 0 _ #[] c0 rfl (Nat.zero_le _) ⟨Nat.zero_le _, by rw [z]; exact hit, hl⟩ hS (ItemsOf.nil _) fun t acc c1 hm hS2 hacc => ?_⟩
  rw [Moved.eq_with hm]
  refine hR t.heap t.toks acc c1 (fun b o hb hb2 e => hm.heap b o (fun hmem => ?_) e) hS2 hacc
  rcases List.mem_cons.mp hmem with q | hmem
  · exact hb q
  · exact hb2 (List.mem_singleton.mp hmem)
theorem tw_initRev {R : Result → Shared → Prop} {it l : Addr} {items : Array Value} (hh : A.handled = none) (hit : s.heap.IsRevIter it l ((items.size : Int) - 1)) (hl : s.heap.IsList l items) (hne : l ≠ it) (hn : items.size ≤ sizeLine)
    (S : Addr) (h1 : S ≠ it) (h2 : S ≠ l) (hS : s.heap.get? S = some { cls := .type "list", data := .seq #[] })
    (hR : ∀ g tk acc c1, (∀ b o, b ≠ S → b ≠ it → s.heap.get? b = some o → g.get? b = some o) → g.get? S = some { cls := .type "list", dict := none, data := .seq acc c1, slots := #[] } → ItemsOf (fun i v => items[items.size - 1 - i]? = some v) acc items.size → R (.ok (.ret .none)) { s with heap := g, toks := tk }) :
    wpAny (model prog w) A.in1 (Builtin.«list.__init__» ⟨[.ref S, .ref it], []⟩)
      (fun fin t => match fin with | .done f => R (.ok f) t | .again c1 => c1.quiet = true ∧ codeAny (model prog w) A c1 R t) (fun e t => R (.error e) t) s := by
  show wpAny _ _ (do let old ← Builtin.List.listItems (.ref S); Builtin.List.listUpdate (.ref S) (fun _ => #[]); letGo old.toList.reverse; Builtin.List.listExtendWith (.ref S) (.ref it) .none) _ _ s
  refine wpAny_bind ?_
  unfold Builtin.List.listItems
  refine wpAny_bind (wpAny_seqItems hS rfl (wpAny_pure ?_))
  show wpAny _ _ (updateSeq S (fun _ => #[]) >>= fun _ => letGo (#[] : Array Value).toList.reverse >>= fun _ => Builtin.List.listExtendWith (.ref S) (.ref it) .none) _ _ s
  have up := Heap.get?_update_self (Obj.mapSeq (fun _ => (#[] : Array Value))) hS rfl
  have oth : ∀ b o, b ≠ S → s.heap.get? b = some o → (s.heap.update S (Obj.mapSeq (fun _ => (#[] : Array Value)))).get? b = some o := fun b o hb e => (Heap.get?_update_other _ _ (Ne.symm hb)).trans e
  refine wpAny_bind (wpAny_updateSeq hS rfl (wpAny_bind (wpAny_letGo ?_)))
  obtain ⟨oi, ei, ri⟩ := hit
  obtain ⟨ol, el, rl⟩ := hl
  exact tw_extRev (s := { s with heap := s.heap.update S (Obj.mapSeq (fun _ => (#[] : Array Value))) }) hh ⟨oi, oth _ _ (Ne.symm h1) ei, ri⟩ ⟨ol, oth _ _ (Ne.symm h2) el, rl⟩ hne hn S h1 h2 .none _ up
    fun g tk acc c1 hk hS2 hacc => hR g tk acc c1 (fun b o hb hb2 e => hk b o hb hb2 (oth b o hb e)) hS2 hacc
theorem tw_callRev {it l : Addr} {items : Array Value} {Q : Value → Shared → Prop} (hh : A.handled = none) (hit : s.heap.IsRevIter it l ((items.size : Int) - 1)) (hl : s.heap.IsList l items) (hne : l ≠ it) (hn : items.size ≤ sizeLine)
    (hQ : ∀ g tk acc c1, (∀ b o, b ≠ it → s.heap.get? b = some o → g.get? b = some o) → g.get? s.heap.objs.size = some { cls := .type "list", dict := none, data := .seq acc c1, slots := #[] } → ItemsOf (fun i v => items[items.size - 1 - i]? = some v) acc items.size → Q (.ref s.heap.objs.size) { s with heap := g, toks := tk }) :
    wpAny (model prog w) A (call (.type "list") [.ref it]) Q E s := by
  refine callType_codes (Q₁ := fun obj t => obj = .ref s.heap.objs.size ∧ t = { s with heap := s.heap.push { cls := .type "list", data := .seq #[] } }) F.called_list (F.typeCall_list_1 _) F.entry_list_init (code_list_new _ ⟨rfl, rfl⟩) fun obj t ht => ?_
  obtain ⟨rfl, rfl⟩ := ht
  have hS : (s.heap.push { cls := .type "list", data := .seq #[] }).get? s.heap.objs.size = some { cls := .type "list", data := .seq #[] } := Heap.get?_push_size _ rfl
  obtain ⟨oi, ei, ri⟩ := id hit
  obtain ⟨ol, el, rl⟩ := id hl
  refine ⟨⟨_, hS, rfl⟩, F.args_list_init_2 _ _, tw_initRev (A := A.in1) (s := { s with heap := s.heap.push { cls := .type "list", data := .seq #[] } }) hh ⟨oi, Heap.get?_push_of_some _ ei, ri⟩ ⟨ol, Heap.get?_push_of_some _ el, rl⟩ hne hn _
    (Nat.ne_of_gt (Heap.lt_size ei)) (Nat.ne_of_gt (Heap.lt_size el)) hS fun g tk acc c1 hk hS2 hacc => ?_⟩
  exact ⟨rfl, hQ g tk acc c1 (fun b o hb e => hk b o (Nat.ne_of_lt (Heap.lt_size e)) hb (Heap.get?_push_of_some _ e)) hS2 hacc⟩
end
end RT

end
section
/-! x[::-1] of a tuple; both over the TW layer -/
namespace HT
open PySem PySem.Spec PyProof.Rows
section
variable {prog : Program} {w : World} {A : Around} {E : Value → Shared → Prop} {s : Shared}
theorem tw_applied {sl : Addr} {vl vu vs : Value} {n : Nat} {Q : Int × Int × Nat → Shared → Prop} (hs : s.heap.IsSliceOf sl vl vu vs) (pl : IsPart vl none) (pu : IsPart vu none) (ps : IsPart vs (some (-1)))
    (h : Q ((n : Int) - 1, -1, n) s) : wpAny (model prog w) A (Builtin.Slice.sliceApplied (.ref sl) (pure (n : Int))) Q E s := by
  obtain ⟨os, hos, hcs, hds⟩ := id hs
  unfold Builtin.Slice.sliceApplied Builtin.Slice.sliceFields
  refine wpAny_bind (wpAny_bind (wpAny_field hos hds (x := vl) rfl (wpAny_bind (wpAny_field hos hds (x := vu) rfl (wpAny_bind (wpAny_field hos hds (x := vs) rfl (wpAny_pure ?_)))))))
  refine wpAny_bind (slicePart_ ps ?_)
  show wpAny _ _ (if ((-1 : Int) == 0) = true then _ else _) _ _ s
  rw [if_neg (by decide)]
  refine wpAny_bind (slicePart_ pl (wpAny_bind (slicePart_ pu (wpAny_bind (wpAny_pure ?_)))))
  have ea : Builtin.Slice.sliceAdjust none none (-1) (n : Int) = ((n : Int) - 1, -1) := by
    unfold Builtin.Slice.sliceAdjust
    simp
  have eb : Builtin.Slice.slicePlaces ((n : Int) - 1) (-1) (-1) = n := by
    unfold Builtin.Slice.slicePlaces
    have h1 : ¬ ((-1 : Int) > 0) := by omega
    rw [if_neg h1]
    by_cases hn : (n : Int) - 1 > -1
    · rw [if_pos hn, show (-(-1) : Int) = 1 by omega, Int.ediv_one]
      omega
    · rw [if_neg hn]
      omega
  show wpAny _ _ (match Builtin.Slice.sliceAdjust none none (-1) (n : Int) with | (lo, hi) => pure (lo, (-1 : Int), Builtin.Slice.slicePlaces lo hi (-1))) _ _ s
  rw [ea]
  show wpAny _ _ (pure ((n : Int) - 1, (-1 : Int), Builtin.Slice.slicePlaces ((n : Int) - 1) (-1) (-1))) _ _ s
  rw [eb]
  exact wpAny_pure h
theorem tw_pick (xs : Array Value) : ((List.range xs.size).filterMap fun (m : Nat) => xs[((xs.size : Int) - 1 + (m : Int) * -1).toNat]?).toArray = xs.toList.reverse.toArray := by
  congr 1
  have e : (fun (m : Nat) => xs[((xs.size : Int) - 1 + (m : Int) * -1).toNat]?) = (fun k => xs[k]?) ∘ fun (m : Nat) => ((xs.size : Int) - 1 + (m : Int) * -1).toNat := rfl
  rw [e, ← List.filterMap_map]
  have e2 : (List.range xs.size).map (fun (m : Nat) => ((xs.size : Int) - 1 + (m : Int) * -1).toNat) = (List.range xs.size).reverse := by
    rw [← PySem.W.krv_range]
    apply List.map_congr_left
    intro k hk
    have := List.mem_range.mp hk
    omega
  rw [e2, List.filterMap_reverse, PySem.W.krv_all]
theorem tw_getRev {t sl : Addr} {items : Array Value} {vl vu vs : Value} {Q : Value → Shared → Prop} (ht : IsTup s.heap t items) (hs : s.heap.IsSliceOf sl vl vu vs) (pl : IsPart vl none) (pu : IsPart vu none) (ps : IsPart vs (some (-1)))
    (h : Q (.ref s.heap.objs.size) { s with heap := s.heap.push { cls := .type "tuple", data := .seq items.toList.reverse.toArray } }) (hsz : items.size ≤ sizeLine) : wpAny (model prog w) A (getItem (.ref t) (.ref sl)) Q E s := by
  have hz : sizeOk (.seq items.toList.reverse.toArray) := by
    show items.toList.reverse.toArray.size ≤ sizeLine
    simpa using hsz
  obtain ⟨os, hos, hcs, hds⟩ := id hs
  have hTs : s.TypeIs (.ref sl) "slice" := ⟨os, hos, hcs⟩
  unfold getItem
  try with_reducible refine wpAny_holding ?_
  first | refine wpAny_bind (wpAny_pure ?_) | skip
  refine wpAny_bind (wpAny_sequenceKey ht.typeIs (by decide) (wpAny_bind (wpAny_callSpecial?_slot (name := Str.ofString "__getitem__") ht.typeIs PyProof.Rows.slot_tuple_getitem
    (wpAny_call_entry PyProof.Rows.slot_tuple_getitem ht.typeIs entry_tuple_getitem ?_ (args_tuple_getitem _ _)))))
  show wpAny _ _ (Builtin.Tuple.tupleItemsOf (.ref t) >>= _) _ _ s
  refine wpAny_bind (tupleItemsOf_ ht (wpAny_bind (wpAny_typeOf hTs ?_)))
  rw [if_pos (by decide)]
  refine wpAny_bind (tw_applied hs pl pu ps ?_)
  have hno : ¬ ((((items.size : Int) - 1) == 0 && (-1 : Int) == 1 && items.size == items.size) = true) := by
    simp
  show wpAny _ _ (if (((items.size : Int) - 1) == 0 && (-1 : Int) == 1 && items.size == items.size) = true then _ else _) _ _ s
  rw [if_neg hno, tw_pick]
  first
    | exact wpAny_bind (m := Builtin.Tuple.tupleExact _) (wpAny_newObj_type (wpAny_pure ⟨_, rfl, wpAny_pure h⟩) hz)
    | exact wpAny_bind (m := Builtin.Tuple.tupleExact _) (wpAny_newObj_type (wpAny_bind (wpAny_pure (wpAny_pure ⟨_, rfl, wpAny_pure h⟩))) hz)
    | exact wpAny_bind (wpAny_bind (m := Builtin.Tuple.tupleExact _) (wpAny_newObj_type (wpAny_pure (wpAny_pure ⟨_, rfl, wpAny_pure h⟩)) hz))
    | exact wpAny_bind (wpAny_bind (m := Builtin.Tuple.tupleExact _) (wpAny_newObj_type (wpAny_pure ⟨_, rfl, wpAny_pure h⟩) hz))
end
end HT

end
section
namespace TW
open PySem PySem.Spec PyProof.Rows L2
def tRevT (K : PySem.W.Frag) (te : TE) : TE := fun σ H Q => te σ H fun x H1 => ∃ a xs, x = .ref a ∧ SqT K H1 a xs ∧ ∀ p, H1 p = none → Q (.ref p) (upd H1 p (.tup xs.reverse))
theorem pe_revT {X : Cx} {e : Expr} {te : TE} {k : Nat} {p1 p2 p3 pos : Pos} (he : PE X e te) : PE X (.Subscript e (.Slice none none (some (.UnaryOp .USub (.Constant (.int 1) k p1) p2)) p3) pos) (tRevT X.K te) := by
  refine ⟨fun pins s σ H Q I h => Subscript_ (thn (he.run pins s σ H _ I h) fun v s1 hh => ?_)⟩
  obtain ⟨x, H1, I1, r1, a, xs, ex, hx, q⟩ := hh
  subst ex
  cases r1
  have step : PO X (some (.UnaryOp .USub (.Constant (.int 1) k p1) p2)) (tPart (tUn (rU fun i => .int (-i)) (tC (.int 1)))) := po_some (pe_un un_neg pe_int)
  refine wpAny_Slice (thn (po_none.run pins s1 σ H1 (fun o H2 => o = none ∧ H2 = H1) I1 ⟨rfl, rfl⟩) fun vl s2 hl => ?_)
  obtain ⟨l, H2, I2, pl, rfl, rfl⟩ := hl
  refine thn (po_none.run pins s2 σ H2 (fun o H3 => o = none ∧ H3 = H2) I2 ⟨rfl, rfl⟩) fun vu s3 hu => ?_
  obtain ⟨u, H3, I3, pu, rfl, rfl⟩ := hu
  refine thn (step.run pins s3 σ H3 (fun o H4 => o = some (-1) ∧ H4 = H3) I3 ⟨1, rfl, -1, rfl, rfl, rfl⟩) fun vs s4 hs => ?_
  obtain ⟨o, H4, I4, ps, rfl, rfl⟩ := hs
  have I5 : Inv X pins σ H4 { s4 with heap := s4.heap.push { cls := .type "slice", data := .fields #[vl, vu, vs] } } := I4.kept (t' := s4.toks) fun b ob q => Heap.get?_push_of_some _ q
  obtain ⟨its, r, ht, hz⟩ := I5.tuple hx
  have hlen : its.toArray.size = xs.length := by rw [List.size_toArray]; exact r.length.symm
  show wpAny (model X.prog X.w) X.A (subscriptTail e (.Slice none none (some (.UnaryOp .USub (.Constant (.int 1) k p1) p2)) p3) (.ref a) (.ref s4.heap.objs.size)) (EP X pins σ Q) X.xe { s4 with heap := s4.heap.push { cls := .type "slice", data := .fields #[vl, vu, vs] } }
  refine tail_any (ops := [.ref a, .ref s4.heap.objs.size]) ht.typeIs (PyProof.Rows.slot_tuple_getitem.lookup) ?_ (by with_unfolding_all rfl)
  refine HT.tw_getRev ht (Heap.IsSliceOf.new _ vl vu vs) pl pu ps ?_ (by rw [hlen]; exact hz)
  refine ⟨.ref _, _, I5.laid (t' := s4.toks) (o := .tup xs.reverse) (fun b ob q => Heap.get?_push_of_some _ q) (Nat.le_refl _) ?_, rfl, q _ (I5.hok.fresh (Nat.le_refl _))⟩
  refine ⟨by rw [List.length_reverse]; exact hz, its.reverse, r.reverse, ?_⟩
  exact IsTup.new _ _
def tLstRev (K : PySem.W.Frag) (te : TE) : TE := fun σ H Q => te σ H fun v H1 => ∃ (a : Addr) (xs : List V), v = .ref a ∧ SqL K H1 a xs ∧ ∀ q, H1 q = none → Q (.ref q) (upd H1 q (.lst xs.reverse))
theorem pe_listRev {X : Cx} {e : Expr} {te : TE} {p p2 pos pos2 : Pos} (hc : X.calm = true) (hg : Gl X "list") (hm : X.mg "list" = none) (hg2 : Gl X "reversed") (hm2 : X.mg "reversed" = none) (he : PE X e te)
    (hs : starEach [e] X.env = (false, eval e X.env) :: starEach [] X.env := by rfl)
    (hs2 : starEach [.Call (.Name "reversed" p2) [e] [] pos2] X.env = (false, eval (.Call (.Name "reversed" p2) [e] [] pos2) X.env) :: starEach [] X.env := by rfl) :
    PE X (.Call (.Name "list" p) [.Call (.Name "reversed" p2) [e] [] pos2] [] pos) (tLstRev X.K te) := by
  refine ⟨fun pins s σ H Q I h => ?_⟩
  refine Call_ (ld_blt I hg hm boot_list (PyProof.Rows.callWith_type1 (args_cons (Call_ (ld_blt I hg2 hm2 PyProof.Rows.boot_reversed (PyProof.Rows.callWith_type1 (args_cons (thn (he.run pins s σ H _ I h) fun u s1 hh => args_nil ?_) hs) hs rfl))) hs2) hs2 rfl))
  obtain ⟨v, H1, I1, r1, a, xs, ev, hq, q⟩ := hh
  subst ev
  obtain rfl : u = Value.ref a := r1
  obtain ⟨its, rv, p', hz⟩ := I1.list hq
  refine call_reversed_list p'.isList (args_nil ?_)
  have hl := p'.isList
  obtain ⟨ol, hol, _⟩ := id hl
  have hne : a ≠ s1.heap.objs.size := Nat.ne_of_lt (Heap.lt_size hol)
  have hn : its.toArray.size ≤ sizeLine := by rw [List.size_toArray, ← rv.length]; exact hz
  refine RT.tw_callRev (s := { s1 with heap := s1.heap.push (revObj a ((its.toArray.size : Int) - 1)) }) (I1.ok.hd hc) ⟨_, Heap.get?_push_size _ rfl, rfl, rfl⟩ (hl.push _) hne hn fun g tk acc c1 hk hg hi => ?_
  have k1 : ∀ b o, s1.heap.get? b = some o → g.get? b = some o := fun b o e => hk b o (Nat.ne_of_lt (Heap.lt_size e)) (Heap.get?_push_of_some _ e)
  have sz : s1.heap.objs.size ≤ (s1.heap.push (revObj a ((its.toArray.size : Int) - 1))).objs.size := by
    rw [Heap.size_push]
    exact Nat.le_succ _
  refine ⟨.ref _, upd H1 _ (.lst xs.reverse), I1.laid (t' := tk) k1 sz (show ObjOk X.prog X.w _ _ _ (.lst xs.reverse) from ⟨by rw [List.length_reverse]; exact hz, acc.toList, c1, RT.vals_rev rv hi, ?_⟩), rfl, q _ (I1.hok.fresh sz)⟩
  rw [Array.toArray_toList]
  exact hg
theorem RvA.rev {K : PySem.W.Frag} {G : Hp} : ∀ {ds : List PyData} {xs : List V}, RvA K G ds xs → RvA K G ds.reverse xs.reverse
  | [], _, h => by cases h; exact rfl
  | d :: ds, _, ⟨x, r, h1, h2, h3⟩ => by
    subst h1
    rw [List.reverse_cons, List.reverse_cons]
    exact (RvA.rev h3).app (RvA.one h2)
def dRevT (d : M PyData) : M PyData := d.bind fun x => match x with
  | .tuple ds => .ret (.tuple ds.reverse)
  | _ => .st
def xRevL (d : M PyData) : M Rz := d.bind fun x => match x with
  | .list ds => .ret (.l ds.reverse)
  | _ => .st
section
variable {X : Cx} {TG : TGx} {W : WX} {e : Expr} {d : M PyData} {k : Nat} {p p1 p2 p3 pos pos2 : Pos}
theorem de_revT (he : DE X TG W e d) : DE X TG W (.Subscript e (.Slice none none (some (.UnaryOp .USub (.Constant (.int 1) k p1) p2)) p3) pos) (dRevT d) := PE_imp (pe_revT he) fun s H Q q => by
  obtain ⟨B, F, G0, G, r, i, p⟩ := rd_bind (R1 := RE X.K) q
  refine ⟨B, F, G0, G, r, i, post_imp (fun x H1 q => ?_) _ p⟩
  obtain ⟨B, F, G0, G1, r1, a, i1, v1, p1⟩ := q
  cases a with
  | tuple ds =>
    have v1 : Rv X.K G1 (.tuple ds) x := v1
    obtain ⟨b, us, rfl, h1, h2⟩ := v1
    refine ⟨b, us, rfl, same_t i1.gh h1, fun c hc => ?_⟩
    have g := Grow.new i1.gh hc (.tup us.reverse) (fun _ z => by cases z)
    exact p1 _ _ _ g.g (i1.grow g) ⟨c, _, rfl, .inl (.inl upd_same), (RvA.mono g.g _ _ h2).rev⟩
  | none => exact p1.elim
  | bool _ => exact p1.elim
  | int _ => exact p1.elim
  | str _ => exact p1.elim
  | list _ => exact p1.elim
  | dict _ => exact p1.elim
theorem dx_listRev (hc : X.calm = true) (hg : Gl X "list") (hm : X.mg "list" = none) (hg2 : Gl X "reversed") (hm2 : X.mg "reversed" = none) (he : DE X TG W e d) (hs : starEach [e] X.env = (false, eval e X.env) :: starEach [] X.env := by rfl)
    (hs2 : starEach [.Call (.Name "reversed" p2) [e] [] pos2] X.env = (false, eval (.Call (.Name "reversed" p2) [e] [] pos2) X.env) :: starEach [] X.env := by rfl) : DX X TG W (.Call (.Name "list" p) [.Call (.Name "reversed" p2) [e] [] pos2] [] pos) (xRevL d) := PE_imp (pe_listRev hc hg hm hg2 hm2 he hs hs2) fun s H Q q => by
  obtain ⟨B, F, G0, G, r, i, p⟩ := rdX_bind (R1 := RE X.K) q
  refine ⟨B, F, G0, G, r, i, post_imp (fun x H1 q => ?_) _ p⟩
  obtain ⟨B, F, G0, G1, r1, a, i1, v1, p1⟩ := q
  cases a with
  | list ds =>
    have v1 : Rv X.K G1 (.list ds) x := v1
    obtain ⟨b, us, rfl, h1, h2⟩ := v1
    refine ⟨b, us, rfl, .inl (.inl (i1.gh _ _ h1)), fun c hc => ?_⟩
    obtain ⟨i2, fr⟩ := i1.newl hc h2.rev
    exact p1 _ _ _ (.refl _) i2 fr
  | none => exact p1.elim
  | bool _ => exact p1.elim
  | int _ => exact p1.elim
  | str _ => exact p1.elim
  | tuple _ => exact p1.elim
  | dict _ => exact p1.elim
/-- d[k] of a dict with text keys -/
def fDix (kvs : List (PyData × PyData)) (b : PyData) : Option PyData := (keyD b).bind (getK kvs)
def dDix (d k : M PyData) : M PyData := d.bind fun a => match gKd a with
  | some kvs => k.bind fun b => .opt (fDix kvs b)
  | none => .st
theorem de_dix {o f : Expr} {dk : M PyData} (hu : X.A.units + 1 < cLine) (ho : DE X TG W o d) (hf : DE X TG W f dk) (hs : NoSl f) : DE X TG W (.Subscript o f pos) (dDix d dk) := PE_imp (pe_dget hu ho hf hs) fun s H Q q => by
  obtain ⟨B, F, G0, G, z, i, p⟩ := rd_bind (R1 := RE X.K) q
  refine ⟨B, F, G0, G, z, i, post_imp (fun v H1 q => ?_) _ p⟩
  obtain ⟨B, F, G0, G1, r1, a, i1, v1, p1⟩ := q
  cases hk : gKd a with
  | none => rw [hk] at p1; exact p1.elim
  | some kvs =>
    rw [hk] at p1
    obtain ⟨D, ks, rfl, hD, rv⟩ := gKd_rv v1 hk
    refine ⟨B, F, G0, G1, r1, i1, post_imp (fun y H2 q => ?_) _ (post_bind (R1 := RE X.K) _ p1)⟩
    obtain ⟨G2, r2, b, e2, i2, v2, p2⟩ := q
    cases hq : keyD b with
    | none =>
      unfold fDix at p2
      rw [hq] at p2
      exact p2.elim
    | some q =>
      have ey := keyD_v v2 hq
      rcases rvD_get q (RvD.mono e2 _ _ rv) with ⟨g1, _⟩ | ⟨d', v', g1, g2, g3⟩
      · unfold fDix at p2
        rw [hq, Option.bind_some, g1] at p2
        exact p2.elim
      · unfold fDix at p2
        rw [hq, Option.bind_some, g1] at p2
        exact ⟨D, v', rfl, .inl ⟨ks, q, .inl (i2.gh _ _ (e2 _ _ hD)), ey, g2.symm⟩, p2 G2 H2 _ (.refl _) i2 g3⟩
end
end TW

end
section
/-! x(lambda: body), x(lambda y=0: body), x a def of ours: the lambda's code object stands in the def's table, all else is as it was -/
namespace TW
open PySem PySem.Spec PyProof.Rows L2 LamX
/-- the heap behind the making of a lambda -/
def Lx (P : Addr) (q : Str) (H H1 : Hp) : Prop := H1 = H ∨ ∃ (ps more : Array Value) (c : Addr), H P = some (.tbl ps) ∧ H c = none ∧ H1 = upd (upd H P (.tbl (ps ++ more))) c (CodeO c q)
/-- a lambda's function with its defaults dft -/
abbrev lamFn (q : Str) (params : Arguments) (body : Expr) (scope : Scope) (cl : List (Str × Addr)) (dft pm cdv ct : Value) : FuncData := { PySem.W.kla_fn "<lambda>" q params body scope cl pm cdv ct with defaults := dft }
abbrev lamOb (q : Str) (params : Arguments) (body : Expr) (scope : Scope) (cl : List (Str × Addr)) (dft pm : Value) (c : Addr) (ct : Value) : Obj := { cls := .type "function", data := .func (lamFn q params body scope cl dft pm (.ref c) ct) }
/-- the default: none, or one number -/
def DefOk (params : Arguments) (env : Env) : Option Int → Prop
  | none => defaultsOf params env = ([], [])
  | some i => ∃ (j : Nat) (p : Pos), defaultsOf params env = ([eval (.Constant (.int i) j p) env], [])
/-- it stands in the heap -/
def DftAt (h : Heap) (H : Hp) (fr : List Addr) (dft : Value) : Option Int → Prop
  | none => dft = .none
  | some i => ∃ (T : Addr) (t : Tok), dft = .ref T ∧ h.get? T = some { cls := .type "tuple", data := .seq #[.int i t] } ∧ H T = none ∧ T ∉ fr
/-- what a call without arguments binds -/
def BndOk (x : Str) (params : Arguments) (body : Expr) (scope : Scope) : Option Int → Prop
  | none => ∀ (q : Str) (cl : List (Str × Addr)) (pm cv ctv : Value), bindArgs (lamFn q params body scope cl .none pm cv ctv) ⟨[], []⟩ = pure []
  | some _ => ∀ (q : Str) (cl : List (Str × Addr)) (T : Addr) (pm cv ctv : Value), ∃ k, bindArgs (lamFn q params body scope cl (.ref T) pm cv ctv) ⟨[], []⟩ = seqItems? (.ref T) >>= k ∧ ∀ u, k (some #[u]) = pure [(x, u)]
def dnOf (x : Str) : Option Int → List Str
  | none => []
  | some _ => [x]
/-- the lambda's scope -/
structure LamP (N : List Str) (dn : List Str) (sc scope : Scope) : Prop where
  kind : scope.kind = .function
  co : scope.isCoroutine = false
  gen : scope.isGenerator = false
  own : ∀ y ∈ scope.names, y.2 ≠ .cell
  loc : ∀ y ∈ N, scope.names.lookup y ≠ some .local
  dl : ∀ y ∈ dn, scope.names.lookup y = some .local
  free : ∀ y ∈ scope.names, y.2 = .free → sc.names.lookup y.1 = some .cell ∨ sc.names.lookup y.1 = some .free
def lamPB (N dn : List Str) (sc scope : Scope) : Bool :=
  decide (scope.kind = .function) && (!scope.isCoroutine && (!scope.isGenerator && ((scope.names.all fun y => !decide (y.2 = .cell) && (!decide (y.2 = .free) || (decide (sc.names.lookup y.1 = some .cell) || decide (sc.names.lookup y.1 = some .free)))) &&
    ((N.all fun y => !decide (scope.names.lookup y = some .local)) && dn.all fun y => decide (scope.names.lookup y = some .local)))))
theorem lamP_by {N dn : List Str} {sc scope : Scope} (h : lamPB N dn sc scope = true) : LamP N dn sc scope := by
  unfold lamPB at h
  obtain ⟨h1, h⟩ := Bool.and_eq_true_iff.mp h
  obtain ⟨h2, h⟩ := Bool.and_eq_true_iff.mp h
  obtain ⟨h3, h⟩ := Bool.and_eq_true_iff.mp h
  obtain ⟨h4, h⟩ := Bool.and_eq_true_iff.mp h
  obtain ⟨h5, h6⟩ := Bool.and_eq_true_iff.mp h
  have h4 := List.all_eq_true.mp h4
  refine ⟨of_decide_eq_true h1, by simpa using h2, by simpa using h3, fun y hy => ?_, fun y hy => ?_, fun y hy => of_decide_eq_true (List.all_eq_true.mp h6 y hy), fun y hy e => ?_⟩
  · have := (Bool.and_eq_true_iff.mp (h4 y hy)).1
    simpa using this
  · have := List.all_eq_true.mp h5 y hy
    simpa using this
  · have := (Bool.and_eq_true_iff.mp (h4 y hy)).2
    rw [e] at this
    simpa using this
theorem LamP.has {X : Cx} {N dn : List Str} {scope : Scope} (L : LamP N dn X.env.scope scope) (ok : X.Ok) : ∀ y ∈ scope.names, y.2 = .free → ∃ c, X.env.cells.lookup y.1 = some c := fun y hy e =>
  (L.free y hy e).elim (fun k => ok.has _ (.inl k)) fun k => ok.has _ (.inr k)
section
variable {M : Model} {A : Around} {E : Value → Shared → Prop} {s : Shared} {q : Str} {params : Arguments} {body : Expr} {scope : Scope} {env : Env} {c P : Addr} {ps : Array Value} {pos : Pos} {mg : Str → Option Value} {clos : List (Str × Addr)} {dft : Value} {Q : Value → Shared → Prop}
/-- the tail of its making: what stood stands but for the table; the code object is new, or the table's -/
theorem lam_tail (hcl : closureFor scope env = pure clos) (hg0 : env.globals = mainGlobals) (hg : s.heap.Ns mainGlobals mg) (hcode : env.code = .ref c) (C : PySem.W.CodeHd s.heap c P) (hP : s.heap.get? P = some (PySem.W.tabObj ps)) (ht : TriplesOk ps.toList) (hgP : mainGlobals ≠ P) (hb : s.heap.BuiltinsAt mg P)
    (hit : ∀ (cv ctv : Value) (g : Heap) (tk : Tok), codeAmong pos ps.toList = some cv → (∀ b o, s.heap.get? b = some o → g.get? b = some o) → s.heap.objs.size ≤ g.objs.size →
      Q (.ref g.objs.size) { s with heap := g.push { cls := .type "function", data := .func (lamFn q params body scope clos dft ((mg "__name__").getD .none) cv ctv) }, toks := tk })
    (new : ∀ (c1 : Addr) (ctv : Value) (g : Heap) (tk : Tok), codeAmong pos ps.toList = none → Heap.ExtBut P s.heap g → s.heap.objs.size ≤ c1 → c1 < g.objs.size → g.CodeRec (.ref c1) q → g.get? P = some (PySem.W.tabObj (ps ++ #[rawInt pos.line, rawInt pos.col, .ref c1])) →
      Q (.ref g.objs.size) { s with heap := g.push (lamOb q params body scope clos dft ((mg "__name__").getD .none) c1 ctv), toks := tk }) :
    wpAny M A (makeTail "<lambda>" q params (.expr body) scope env dft .none none pos pos.line) Q E s := by
  obtain ⟨bm, ob, hbm, hn0, _, hnP, hbo, hbc, hbd, hbx⟩ := hb
  unfold makeTail
  rw [hcl, hg0]
  refine wpAny_bind (wpAny_pure ?_)
  -- the closure's tuple, if there is one
  have main : ∀ (g0 : Heap) (ctv : Value), (∀ b o, s.heap.get? b = some o → g0.get? b = some o) → s.heap.objs.size ≤ g0.objs.size →
      wpAny M A (do
        let fd : FuncData := { name := "<lambda>", qualname := q, params := params, body := .expr body, scope := scope, globals := mainGlobals, closure := clos, closureTuple := ctv,
                               code := ← functionCode env pos pos.line "<lambda>" q params scope (.expr body), builtins := ← builtinsFor mainGlobals env.builtins,
                               defaults := dft, kwdefaults := .none, annotations := none, pyModule := (← nsGet mainGlobals "__name__").getD .none, doc := ← (pure .none : Sem Value) }
        newObj (.type "function") (.func fd)) Q E { s with heap := g0 } := fun g0 ctv k0 z0 => by
    have hg1 : g0.Ns mainGlobals mg := hg.keeps k0
    cases hc : codeAmong pos ps.toList with
    | some cv =>
      refine wpAny_bind (wpAny_functionCode_hit hcode ((C.keeps k0).code (k0 _ _ hP) ht) hc ?_)
      refine wpAny_bind (wpAny_builtinsFor hg1 hbm hn0 (k0 _ _ hbo) hbc hbd hbx ?_)
      refine wpAny_bind (wpAny_nsGet hg1 ?_)
      exact wpAny_bind (wpAny_pure (wpAny_newObj_type (hit cv ctv g0 s.toks hc k0 z0) (by size_fits)))
    | none =>
      refine wpAny_bind (wpAny_functionCodeX hcode ((C.keeps k0).code (k0 _ _ hP) ht) ((C.keeps k0).tab (k0 _ _ hP)) hc fun c1 g1 tk hx hge hlt _ hrec htb _ => ?_)
      have hg2 := hg1.extBut hx hgP
      have hx0 : Heap.ExtBut P s.heap g1 := fun b o hb' e => hx b o hb' (k0 _ _ e)
      refine wpAny_bind (wpAny_builtinsFor hg2 hbm hn0 (hx0 _ _ hnP hbo) hbc hbd hbx ?_)
      refine wpAny_bind (wpAny_nsGet hg2 ?_)
      exact wpAny_bind (wpAny_pure (wpAny_newObj_type (new c1 ctv g1 tk hc hx0 (Nat.le_trans z0 hge) hlt hrec htb.2) (by size_fits)))
  cases clos with
  | nil =>
    simp only [List.isEmpty_nil, if_true]
    exact wpAny_bind (wpAny_pure (main s.heap .none (fun _ _ e => e) (Nat.le_refl _)))
  | cons y r =>
    simp only [List.isEmpty_cons, Bool.false_eq_true, if_false]
    exact wpAny_bind (wpAny_newTextTuple (main _ _ (fun _ _ e => Heap.get?_push_of_some _ e) (by rw [Heap.size_push]; omega)))
end
section
variable {X : Cx} {pins : List (Addr × Obj)} {σ : L2.St} {H : Hp} {s : Shared}
/-- the lambda is made -/
theorem tw_make {c P : Addr} {params : Arguments} {body : Expr} {scope : Scope} {pos : Pos} {df : Option Int} {E Q : Value → Shared → Prop} (I : Inv X pins σ H s) (TB : TabB X.base X.mg c P) (hcode : X.env.code = .ref c)
    (hT : TabQ H ⟨P, some (X.env.qual ++ "<lambda>")⟩) (hdef : DefOk params X.env df) (hfree : ∀ y ∈ scope.names, y.2 = .free → ∃ c, X.env.cells.lookup y.1 = some c)
    (h : ∀ (f c1 : Addr) (dft pm ctv : Value) (H1 : Hp) (t : Shared), Inv X pins σ H1 t → Lx P (X.env.qual ++ "<lambda>") H H1 → TabQ H1 ⟨P, some (X.env.qual ++ "<lambda>")⟩ →
      t.heap.get? f = some (lamOb (X.env.qual ++ "<lambda>") params body scope (cloFrom X.env.cells scope.names []) dft pm c1 ctv) → H1 f = none → f ∉ frs X.stack → DftAt t.heap H1 (frs X.stack) dft df → H1 c1 = some (CodeO c1 (X.env.qual ++ "<lambda>")) → Q (.ref f) t) :
    wpAny (model X.prog X.w) X.A (eval (.Lambda params body scope pos) X.env) Q E s := by
  obtain ⟨ps, hP, ht, ha⟩ := hT
  have hP : H P = some (.tbl ps) := hP
  have ha := ha _ rfl
  -- behind the defaults
  have tail : ∀ (s : Shared), Inv X pins σ H s → ∀ (g0 : Heap) (t0 : Nat) (dft : Value), Inv X pins σ H { s with heap := g0, toks := t0 } → (∀ b o, s.heap.get? b = some o → g0.get? b = some o) → s.heap.objs.size ≤ g0.objs.size → (∀ (g : Heap) (H1 : Hp), (∀ b o, b ≠ P → g0.get? b = some o → g.get? b = some o) → (∀ b, s.heap.objs.size ≤ b → b < g0.objs.size → H1 b = none) → DftAt g H1 (frs X.stack) dft df) →
      wpAny (model X.prog X.w) X.A (makeTail "<lambda>" (X.env.qual ++ "<lambda>") params (.expr body) scope X.env dft .none none pos pos.line) Q E { s with heap := g0, toks := t0 } := fun s I g0 t0 dft I0 k0 z0 hd => by
    have bP : g0.BuiltinsAt X.mg P := TB.bm.keeps I0.bk
    have oP : g0.get? P = some { cls := .none, data := .fields ps } := I0.hok P _ hP
    have nofr : ∀ f, g0.objs.size ≤ f → f ∉ frs X.stack := fun f hf z => by
      rcases List.mem_cons.mp (I0.stkSub _ z) with e | e
      · exact absurd (Nat.lt_of_lt_of_le I0.lt hf) (by rw [e]; exact Nat.lt_irrefl _)
      · exact I0.nofs hf e
    refine lam_tail (mg := X.mg) (c := c) (P := P) (ps := ps) (L2.closure_ok hfree) I0.ok.glob (I0.mod.glob.keeps I0.bk) hcode (TB.code.keeps I0.bk) oP ht TB.gP bP (fun cv ctv g tk hc hx hsz => ?_) fun c1 ctv g tk hc hx hge hlt hrec htb => ?_
    · obtain ⟨c1, rfl, hco⟩ := ha pos cv hc
      have hx2 : ∀ b o, g0.get? b = some o → (g.push { cls := .type "function", data := .func (lamFn (X.env.qual ++ "<lambda>") params body scope (cloFrom X.env.cells scope.names []) dft ((X.mg "__name__").getD .none) (.ref c1) ctv) }).get? b = some o := fun b o e => Heap.get?_push_of_some _ (hx b o e)
      exact h g.objs.size c1 dft _ ctv H _ (I0.kept hx2) (.inl rfl) ⟨ps, hP, ht, fun q hq => by cases hq; exact ha⟩ (Heap.get?_push_size _ rfl) (I0.hok.fresh hsz) (nofr _ hsz)
        (hd _ _ (fun b o _ e => hx2 b o e) fun b z1 z2 => (by
          cases w : H b with
          | none => rfl
          | some u => exact absurd (I.hok.lt w) (Nat.not_lt.mpr z1))) hco
    · obtain ⟨c2, oc, vs, t, e2, hoc, hdt, hv⟩ := hrec
      cases e2
      have hsz : g0.objs.size ≤ g.objs.size := Nat.le_trans hge (Nat.le_of_lt hlt)
      have nC : H c1 = none := I0.hok.fresh hge
      have cP : P ≠ c1 := ne_of_none hP nC
      have hx2 : ∀ b o, b ≠ P → g0.get? b = some o → (g.push (lamOb (X.env.qual ++ "<lambda>") params body scope (cloFrom X.env.cells scope.names []) dft ((X.mg "__name__").getD .none) c1 ctv)).get? b = some o := fun b o hb e => Heap.get?_push_of_some _ (hx b o hb e)
      have J := inv_table (t' := tk) (q := X.env.qual ++ "<lambda>") (more := #[rawInt pos.line, rawInt pos.col, .ref c1]) I0 hP hx2 (Heap.get?_push_of_some _ htb) hge ⟨oc, vs, t, Heap.get?_push_of_some _ hoc, hdt, hv⟩
      have eL : (ps ++ #[rawInt pos.line, rawInt pos.col, .ref c1]).toList = ps.toList ++ [rawInt pos.line, rawInt pos.col, .ref c1] := by simp
      have n2 : ∀ b, g0.objs.size ≤ b → b ≠ P := fun b hb e => Nat.lt_irrefl _ (Nat.lt_of_lt_of_le (Heap.lt_size oP) (by rw [← e]; exact hb))
      refine h g.objs.size c1 dft _ ctv _ _ J (.inr ⟨ps, _, c1, hP, nC, rfl⟩) ⟨_, by show upd (upd H P _) c1 _ P = _; rw [upd_ne cP, upd_same], by rw [eL]; exact PySem.TriplesOk_snoc _ _ _ _ ht, fun q hq p1 cv hcv => ?_⟩ (Heap.get?_push_size _ rfl) ?_ (nofr _ hsz) (hd _ _ hx2 fun b z1 z2 => ?_) upd_same
      · cases hq
        rw [eL] at hcv
        rcases among_app _ ht hcv with z | z
        · obtain ⟨c0, e1, e2⟩ := ha p1 cv z
          refine ⟨c0, e1, ?_⟩
          rw [upd_ne (ne_of_none e2 nC), upd_ne fun x => by rw [x, hP] at e2; exact codeO_ne _ (Option.some.inj e2).symm]
          exact e2
        · exact ⟨c1, z, upd_same⟩
      · rw [upd_ne (Nat.ne_of_gt hlt), upd_ne (n2 _ hsz)]
        exact I0.hok.fresh hsz
      · rw [upd_ne (fun e => Nat.lt_irrefl _ (Nat.lt_of_lt_of_le z2 (by rw [e]; exact hge)))]
        have : H b = none := by
          cases w : H b with
          | none => rfl
          | some u => exact absurd (I.hok.lt w) (Nat.not_lt.mpr z1)
        rw [upd_ne (fun e => by rw [e, hP] at this; cases this)]
        exact this
  rw [arm_eval_Lambda]
  cases df with
  | none =>
    rw [show defaultsOf params X.env = ([], []) from hdef]
    refine wpAny_bind (wpAny_pure (wpAny_bind (wpAny_holding (wpAny_pure ?_))))
    rw [makeFunction_eq]
    simp only [List.zip_nil_right, List.filterMap_nil, List.isEmpty_nil, if_true, pure_bind]
    exact tail s I s.heap s.toks .none I (fun _ _ e => e) (Nat.le_refl _) fun _ _ _ _ => rfl
  | some i =>
    obtain ⟨j, p, hdef⟩ := hdef
    rw [hdef]
    show wpAny _ _ (do let dv ← (do let v ← eval (.Constant (.int i) j p) X.env; return v :: (← holding [v] (evalAll []))); let kdv ← holding dv (evalAllOpt []); makeFunction "<lambda>" (X.env.qual ++ "<lambda>") params (.expr body) scope X.env dv kdv [] pos pos.line) _ _ _
    refine wpAny_bind (wpAny_bind (thn ((pe_int (X := X) (i := i) (j := j) (pos := p)).run pins s σ H (fun v H1 => v = .int i ∧ H1 = H) I ⟨rfl, rfl⟩) fun u s1 ⟨v, H1, I1, rv, e1, e2⟩ => ?_))
    subst e1
    rw [e2] at I1
    obtain ⟨t, rfl⟩ := rv
    refine wpAny_bind (wpAny_holding (wpAny_pure (wpAny_pure (wpAny_bind (wpAny_holding (wpAny_pure ?_))))))
    rw [makeFunction_eq]
    simp only [List.zip_nil_right, List.filterMap_nil, List.isEmpty_nil, List.isEmpty_cons, Bool.false_eq_true, if_true, if_false, pure_bind]
    refine wpAny_bind (wpAny_newTextTuple ?_)
    have nT : s1.heap.objs.size ∉ frs X.stack := fun z => by
      rcases List.mem_cons.mp (I1.stkSub _ z) with e | e
      · exact absurd I1.lt (by rw [← e]; exact Nat.lt_irrefl _)
      · exact I1.nofs (Nat.le_refl _) e
    refine tail s1 I1 (s1.heap.push { cls := .type "tuple", data := .seq #[.int i t] }) s1.toks (.ref s1.heap.objs.size) (I1.kept fun b o e => Heap.get?_push_of_some _ e) (fun b o e => Heap.get?_push_of_some _ e) (by rw [Heap.size_push]; omega) fun g H1 kg nH => ⟨s1.heap.objs.size, t, rfl, ?_, nH _ (Nat.le_refl _) (by rw [Heap.size_push]; omega), nT⟩
    refine kg _ _ (fun e => ?_) (Heap.get?_push_size _ rfl)
    exact Nat.lt_irrefl _ (Nat.lt_of_lt_of_le (Heap.lt_size (I1.hok P _ hP : s1.heap.get? P = some _)) (by rw [e]; exact Nat.le_refl _))
/-- the lambda's frame: the default's name stands there, too -/
theorem lam_start3 {A : Around} {outer : List Env} {E : XK} {scope : Scope} {f c1 : Addr} {h₁ : Heap} {tk : Nat} {s1 : Shared} {HZ : Hp} {dn : List Str} {bnd : List (Str × Value)} (I : Inv X pins σ H s) (L : LamP X.N dn X.env.scope scope) (e0 : Env0 X.prog X.w X.K X.mg X.base A outer s1 HZ) (hd : A.handled = none)
    (un : Un (frs X.stack) [] H HZ s.heap s1.heap) (hns : h₁.Ns s1.heap.objs.size fun y => bnd.reverse.lookup y) (kp : ∀ b o, s1.heap.get? b = some o → h₁.get? b = some o) :
    Inv (lamCx X A outer s1 HZ E scope f c1) [] σ HZ { s1 with heap := h₁, toks := tk } := by
  have hfree := L.has I.ok
  -- the closure's cells are the def's
  have cl_mem : ∀ {y c}, (L2.cloFrom X.env.cells scope.names []).lookup y = some c → X.env.cells.lookup y = some c := fun {y c} e => by
    rcases L2.cloFrom_mem (PySem.mem_of_lookup e) with hm | ⟨h1, h2⟩
    · cases hm
    · obtain ⟨c2, hc⟩ := hfree _ h1 rfl
      have hc : X.env.cells.lookup y = some c2 := hc
      rw [hc] at h2
      have h2 : c = c2 := h2
      rw [h2]
      exact hc
  have cl_look : ∀ {y}, scope.names.lookup y = some .free → ∃ c, (L2.cloFrom X.env.cells scope.names []).lookup y = some c := fun {y} hl =>
    L2.mem_lookup (L2.cloFrom_has (cells := X.env.cells) (acc := []) (PySem.mem_of_lookup hl : (y, NameKind.free) ∈ scope.names))
  have cell_kept : ∀ {c : Addr} {v : Option Value}, H c = none → s.heap.IsCell c v → h₁.IsCell c v := fun {c v} n ⟨o, ho, hd⟩ => by
    obtain ⟨sl, q⟩ := un.any ho n (by simp)
    exact ⟨_, kp _ _ q, hd⟩
  have no_ex : ∀ b : Addr, b ∉ (lamCx X A outer s1 HZ E scope f c1).ex := fun b z => absurd (show b ∈ ([] : List Addr) from z) (by simp)
  refine ⟨⟨e0.mod, L.kind, rfl, rfl, Nat.le_refl _, fun y z c e1 e2 => I.ok.inj y z c (cl_mem e1) (cl_mem e2), fun y hy => ?_, fun y c z _ => ?_, fun _ => hd, Around.frames_deeper e0.frames, .inr ⟨rfl, rfl⟩, fun b z => absurd z (no_ex b), e0.bs, e0.bsz, fun b _ _ => no_ex b, fun b z => absurd z (no_ex b), e0.funs, e0.frf⟩,
    rfl, e0.bare, Un.kept kp, ⟨_, hns, fun i y v e1 e2 e3 => ?_⟩, fun y c e => ?_, e0.hok.fresh (Nat.le_refl _), fun y c e => ?_, fun q hq => absurd (show q ∈ ([] : List (Addr × Obj)) ++ [] from hq) (by simp), e0.hok.kept kp, I.len⟩
  · rcases (show scope.names.lookup y = some .cell ∨ scope.names.lookup y = some .free from hy) with hy | hy
    · exact absurd rfl (L.own _ (PySem.mem_of_lookup hy))
    · exact cl_look hy
  · exact absurd (show false = true from z) Bool.false_ne_true
  · rcases (show Vis scope y from e3) with k | k | k
    · exact absurd k (L.loc y (List.mem_of_getElem? e1))
    · exact absurd rfl (L.own _ (PySem.mem_of_lookup k))
    · obtain ⟨m, hn, hl⟩ := I.loc
      have hvis : Vis X.env.scope y := (L.free _ (PySem.mem_of_lookup k) rfl).elim (fun k => .inr (.inl k)) (fun k => .inr (.inr k))
      obtain ⟨w1, r, q⟩ := hl i y v e1 e2 hvis
      obtain ⟨c2, h2⟩ := cl_look k
      refine ⟨w1, r, .inr ⟨.inr k, c2, h2, ?_⟩⟩
      have c3 := cl_mem h2
      rcases q with ⟨k1, _⟩ | ⟨_, c4, e5, z⟩
      · have k1 : X.env.scope.names.lookup y = some .local := k1
        rcases L.free _ (PySem.mem_of_lookup k) rfl with k2 | k2
        · rw [show X.env.scope.names.lookup y = _ from k2] at k1; cases k1
        · rw [show X.env.scope.names.lookup y = _ from k2] at k1; cases k1
      · rw [c3] at e5
        cases e5
        exact cell_kept (I.freeC y _ c3) z
  · obtain ⟨w1, z⟩ := I.cell y c (cl_mem e)
    exact ⟨w1, cell_kept (I.freeC y c (cl_mem e)) z⟩
  · obtain ⟨v, o, ho, hd⟩ := I.cell y c (cl_mem e)
    exact un.free c o ho (I.freeC y c (cl_mem e)) (by simp)
/-- a() in the def that got the lambda -/
theorem pe_act3 {CXg : CXT} {Eg : XK} {Ng : List Str} {qg : Str} {sg : Scope} {g f c1 : Addr} {cdg pm ctv dft : Value} {params : Arguments} {body : Expr} {scope : Scope} {k i : Nat} {a y : Str} {df : Option Int} {pn : List (Addr × Obj)} {xe : Value → Shared → Prop} {W : WX} {E : XK} {tb : TE} {p1 p2 : Pos}
    (I : Inv X pins σ H s) (L : LamP X.N (dnOf y df) X.env.scope scope) (hf : s.heap.get? f = some (lamOb (X.env.qual ++ "<lambda>") params body scope (L2.cloFrom X.env.cells scope.names []) dft pm c1 ctv)) (hfn : H f = none) (hfr : f ∉ frs X.stack)
    (hdf : DftAt s.heap H (frs X.stack) dft df) (hbind : BndOk y params body scope df)
    (tk : Takes ((cxOf CXg X.prog X.w X.K X.mg X.base Ng qg sg g cdg X.A X.stack s H Eg).tr pn xe) W) (hW : ∀ cls d σ' H', E cls d H' → W cls d σ' H') (hr : Room (k + 1) (X.A.deeper (envOfC qg sg s.heap.objs.size g cdg)))
    (hbody : ∀ (A : Around) (outer : List Env) (s : Shared) (H : Hp), Room k (A.deeper (lamEnv X scope s.heap.objs.size f c1)) → PE (lamCx X A outer s H E scope f c1) body tb)
    (hN : Ng[i]? = some a) (hv : Vis sg a) (hd : (a == ("__debug__" : Str)) = false := by decide) (hcd : (a == ("__classdict__" : Str)) = false := by decide) :
    PE ((cxOf CXg X.prog X.w X.K X.mg X.base Ng qg sg g cdg X.A X.stack s H Eg).tr pn xe) (.Call (.Name a p1) [] [] p2)
      (fun σZ HZ Q => σZ[i]? = some (some (.ref f)) ∧ HZ c1 = some (CodeO c1 (X.env.qual ++ "<lambda>")) ∧ tb σ HZ Q) := by
  refine ⟨fun pinsZ sZ σZ HZ Q IZ h => ?_⟩
  obtain ⟨hs, hc, ht⟩ := h
  refine wpAny_Call_Name_kw (thn ((pe_var (pos := p1) (i := i) hN hv hd hcd).run pinsZ sZ σZ HZ (fun v H1 => v = .ref f ∧ H1 = HZ) IZ ⟨.ref f, hs, rfl, rfl⟩) fun u s1 ⟨v, H1, I1, r1, ev, eH⟩ => ?_)
  subst ev
  rw [eH] at I1
  obtain rfl : u = Value.ref f := r1
  have noX : ∀ b : Addr, b ∉ ([] : List Addr) := fun b z => nomatch z
  have keepZ := I1.base.keep
  have of1 : s1.heap.get? f = some (lamOb (X.env.qual ++ "<lambda>") params body scope (L2.cloFrom X.env.cells scope.names []) dft pm c1 ctv) := keepZ f _ hf hfn hfr (noX f)
  refine PySem.W.callWith_F0 ⟨_, _, _, _, of1⟩ ?_
  have un : Un (frs X.stack) [] H HZ s.heap s1.heap := I1.base
  obtain ⟨⟨oc, vs, t, hoc, hdc, hvc⟩, _, _⟩ := I1.hok c1 _ hc
  obtain ⟨bnd, hb, hdl⟩ : ∃ bnd : List (Str × Value), BindsTo s1 (lamFn (X.env.qual ++ "<lambda>") params body scope (L2.cloFrom X.env.cells scope.names []) dft pm (.ref c1) ctv) ⟨[], []⟩ bnd ∧ ∀ z ∈ bnd, scope.names.lookup z.1 = some .local := by
    cases df with
    | none =>
      obtain rfl : dft = Value.none := hdf
      exact ⟨[], .of_eq (hbind _ _ _ _ _), fun z hz => by cases hz⟩
    | some i =>
      obtain ⟨T, tt, rfl, hT, hTn, hTf⟩ := hdf
      obtain ⟨k, h1, h2⟩ := hbind (X.env.qual ++ "<lambda>") (L2.cloFrom X.env.cells scope.names []) T pm (.ref c1) ctv
      exact ⟨[(y, .int i tt)], .of_defaults rfl (keepZ T _ hT hTn hTf (noX T)) rfl h1 (h2 _), fun z hz => by
        cases List.mem_singleton.mp hz
        exact L.dl y List.mem_cons_self⟩
  have rc : codeAny (model X.prog X.w) (X.A.deeper (envOfC qg sg s.heap.objs.size g cdg)) (.call (.ref f) ⟨[], []⟩) (CR (L2.CX X.prog X.w) (envOfC qg sg s.heap.objs.size g cdg :: X.stack) X.prog X.w HZ s1 Q E) s1 := by
    refine PySem.W.kla_callFunE hr.depth of1 rfl L.co L.gen rfl ⟨c1, oc, vs, t, rfl, hoc, hdc, hvc⟩ (hb _ _ _ _ ?_)
    refine wpAny_newFunctionEnv L.own hdl (fun h₁ hns hsb => ⟨I1.nolimit.fresh _ hsb, ?_⟩) L.kind
    show codeAny _ _ (.expr body (lamEnv X scope s1.heap.objs.size f c1)) _ _
    have kp : ∀ b o, s1.heap.get? b = some o → h₁.get? b = some o := fun b o e => hsb.extBut b o (Nat.ne_of_lt (Heap.lt_size e)) (Heap.get?_push_of_some _ e)
    have J : Inv (lamCx X (X.A.deeper (envOfC qg sg s.heap.objs.size g cdg)) (envOfC qg sg s.heap.objs.size g cdg :: X.stack) s1 HZ E scope f c1) [] σ HZ { s1 with heap := h₁, toks := s1.toks + bnd.length } :=
      lam_start3 I L I1.env0 hr.hd un hns kp
    refine PySem.W.kla_codeExpr (wpAny_mono ((hbody _ _ s1 HZ (hr.deeper _)).run [] _ _ HZ Q J ht) (fun v s2 hq => ?_) fun e s2 hq => hq)
    obtain ⟨w1, H2, J2, rv, q⟩ := hq
    exact ⟨w1, H2, J2.os, J2.bare, J2.base, J2.hok, rv, q⟩
  have hx : Passes (L2.CX X.prog X.w) ((cxOf CXg X.prog X.w X.K X.mg X.base Ng qg sg g cdg X.A X.stack s H Eg).tr pn xe) E := L2.passes_call tk hW
  refine wpAny_call (codeAny_mono rc fun r s2 hq => ?_)
  cases r with
  | error e => exact hx pinsZ σZ HZ s1 e s2 I1 hq
  | ok fl =>
    cases fl with
    | ret u => exact I1.after hq
    | next => exact False.elim hq
    | brk => exact False.elim hq
    | cont => exact False.elim hq
end
/-- the state goes over the making -/
theorem SR.lam {K : PySem.W.Frag} {TG : TGx} {B : List (Nat × Addr)} {F G0 G H H1 : Hp} {r : List Sl} {s : L2.St} {P : Addr} {q : Str} (i : SR K TG B F G0 G H r s) (hP : (⟨P, some q⟩ : TbK) ∈ TG ∧ ∀ z ∈ TG, z.P = P → z.q = some q) (l : Lx P q H H1) (t : TabQ H1 ⟨P, some q⟩) : SR K TG B F G0 G H1 r s := by
  rcases l with rfl | ⟨ps, more, c, h1, h2, rfl⟩
  · exact i
  have keep : ∀ b u, H b = some u → (∀ ps, u ≠ .tbl ps) → upd (upd H P (.tbl (ps ++ more))) c (CodeO c q) b = some u := fun b u e n => by
    rw [upd_ne (ne_of_none e h2), upd_ne fun x => by rw [x, h1] at e; exact n ps (Option.some.inj e).symm]
    exact e
  refine ⟨i.len, fun b u e => keep b u (i.gh _ _ e) fun p z => i.gt b p (by rw [e, z]), fun b u e => keep b u (i.fh _ _ e) fun p z => i.ft b p (by rw [e, z]), i.g0, i.fg, i.gt, i.ft, fun Z hZ => ?_, i.vals, fun j ds e => ?_, i.sep, i.ios, i.evs⟩
  · by_cases z : Z.P = P
    · have e : Z = ⟨P, some q⟩ := by
        obtain ⟨a, b⟩ := Z
        have z : a = P := z
        have y : b = some q := hP.2 _ hZ z
        rw [z, y]
      rw [e]
      exact t
    · exact (i.tb Z hZ).keep (fun ps' e => by rw [upd_ne (ne_of_none e h2), upd_ne z]; exact e) fun c0 q0 e => keep c0 _ e fun _ => codeO_ne _
  · obtain ⟨a, xs, e1, e2, e3⟩ := i.owns j ds e
    exact ⟨a, xs, e1, keep a _ e2 e3.1.notTbl, e3⟩
end TW

end
section
/-! x(lambda: d), where x is a def that calls what it got once, in a try: found = None / try: a() / except K as n: handler / rest; or without the first, try: found = a() -/
namespace TW
open PySem PySem.Spec PyProof.Rows L2 LamX
/-- the context of the def that got the lambda -/
abbrev gCx (X : Cx) (Ng : List Str) (x : Str) (sg : Scope) (g : Addr) (cdg : Value) (s : Shared) (H : Hp) : Cx := (cxOf C8.CX0 X.prog X.w X.K X.mg X.base Ng x sg g cdg X.A X.stack s H C8.E0).nox
/-- the def that calls what it got; TT: what it makes of the lambda's reading -/
def Gives (X : Cx) (k : Nat) (Ng : List Str) (x : Str) (sg : Scope) (g : Addr) (cdg : Value) (bg : List Stmt) (a : Str) (q : Str) (TT : (XK → Hp → VK → Prop) → Hp → VK → Prop) : Prop :=
  ∀ (f c1 : Addr) (s : Shared) (H : Hp) (Q : VK) (tl : XK → Hp → VK → Prop), Room (k + 1) (X.A.deeper (envOfC x sg s.heap.objs.size g cdg)) →
    (∀ (W : WX) (pn : List (Addr × Obj)) (xe : Value → Shared → Prop) (E : XK) (p1 p2 : Pos), Takes ((cxOf C8.CX0 X.prog X.w X.K X.mg X.base Ng x sg g cdg X.A X.stack s H C8.E0).tr pn xe) W → (∀ cls d σ' H', E cls d H' → W cls d σ' H') →
      PE ((cxOf C8.CX0 X.prog X.w X.K X.mg X.base Ng x sg g cdg X.A X.stack s H C8.E0).tr pn xe) (.Call (.Name a p1) [] [] p2) (fun σZ HZ Q => σZ[0]? = some (some (.ref f)) ∧ HZ c1 = some (CodeO c1 q) ∧ tl E HZ Q)) →
    (∀ (E : XK) (H : Hp) (Q Q' : VK), (∀ v H, Q v H → Q' v H) → tl E H Q → tl E H Q') → H c1 = some (CodeO c1 q) → TT tl H Q →
    ∃ t, PSs (gCx X Ng x sg g cdg s H) bg t ∧ t { nx := fun _ H' => Q .non H', rt := Q } (L2.start Ng [.ref f]) H
/-- x(lambda: body) -/
def tLamQ (P : Addr) (q : Str) (TT : (XK → Hp → VK → Prop) → Hp → VK → Prop) (t : XK → TE) : TE := fun σ H Q => TabQ H ⟨P, some q⟩ ∧ ∀ H1, Lx P q H H1 → TabQ H1 ⟨P, some q⟩ → TT (fun E H' Q' => t E σ H' Q') H1 Q
section
variable {X : Cx}
theorem pe_lamQ {TT : (XK → Hp → VK → Prop) → Hp → VK → Prop} {x a y : Str} {df : Option Int} {g c P : Addr} {k : Nat} {pg : Arguments} {bg : List Stmt} {sg : Scope} {dV kV doc pm cdv ct oc : Value} {an od : Option Addr} {osl : Array (Option Value)} {Ng : List Str}
    {params : Arguments} {body : Expr} {scope : Scope} {t : XK → TE} {p lpos pos : Pos} (hg : Gl X x) (hm : X.mg x = some (.ref g)) (hk : PySem.W.keepIn X.K (.ref g) = true)
    (lk : X.K.lookup g = some ⟨oc, od, .func (PySem.W.fnOf x x pg bg sg dV kV doc pm an cdv ct), osl⟩) (hcg : PySem.W.codeIn X.K cdv x = true) (hb : L2.Binds X.K (PySem.W.fnOf x x pg bg sg dV kV doc pm an cdv ct) [a] []) (Sg : FnScope Ng [a] sg) (hNg : Ng[0]? = some a) (hva : Vis sg a)
    (hG : Gives X k Ng x sg g cdv bg a (X.env.qual ++ "<lambda>") TT)
    (TB : TabB X.base X.mg c P) (hcode : X.env.code = .ref c) (hr : Room (k + 2) X.A) (L : LamP X.N (dnOf y df) X.env.scope scope) (hdef : DefOk params X.env df) (hbind : BndOk y params body scope df)
    (hbody : ∀ (A : Around) (outer : List Env) (s : Shared) (H : Hp) (E : XK) (f c' : Addr), Room k (A.deeper (lamEnv X scope s.heap.objs.size f c')) → PE (lamCx X A outer s H E scope f c') body (t E)) (htm : ∀ (σ : L2.St) (E : XK) (H : Hp) (Q Q' : VK), (∀ v H, Q v H → Q' v H) → t E σ H Q → t E σ H Q')
    (hdb : (x == ("__debug__" : Str)) = false := by decide) (hd : (a == ("__debug__" : Str)) = false := by decide) (hcd : (a == ("__classdict__" : Str)) = false := by decide) :
    PE X (.Call (.Name x p) [.Lambda params body scope lpos] [] pos) (tLamQ P (X.env.qual ++ "<lambda>") TT t) := by
  refine ⟨fun pins s σ H Q I h => wpAny_Call_Name_kw (ld_glob I hg hm (PySem.W.callWith_K (h₀ := X.base) I.ok.mod.kin hk ?_ (by rfl) (by rfl)) hdb)⟩
  obtain ⟨hT, h⟩ := h
  show wpAny _ _ (spliced ((false, eval (.Lambda params body scope lpos) X.env) :: backTo pos (starEach [] X.env))) _ _ s
  refine Calls.spliced_cons (tw_make I TB hcode hT hdef (L.has I.ok) fun f c1 dft pm1 ctv H1 s1 I1 lx T1 hf hfn hfr hdf hco => Calls.spliced_nil ⟨I1.kIn, ?_⟩)
  have run : codeAny (model X.prog X.w) X.A (.call (.ref g) ⟨[.ref f], []⟩) (CR C8.CX0 X.stack X.prog X.w H1 s1 Q C8.E0) s1 := run_ofS (N := Ng) (ps := [a]) (us := [.ref f]) (vs := [.ref f]) lk hcg Sg hr I1.env0 (hb s1 [.ref f] I1.kIn rfl) (.cons rfl .nil) rfl fun hr1 => by
    obtain ⟨t1, ht, hq⟩ := hG f c1 s1 H1 Q (fun E H' Q' => t E σ H' Q') hr1 (fun W pn xe E p1 p2 tk hW => pe_act3 (i := 0) I1 L hf hfn hfr hdf hbind tk hW hr1 (fun A outer s H hr2 => hbody A outer s H E f c1 hr2) hNg hva hd hcd) (fun E H Q Q' w q => htm σ E H Q Q' w q) hco (h H1 lx T1)
    exact ⟨t1, ht.nox, hq⟩
  refine wpAny_call (codeAny_mono run fun r s2 hq => ?_)
  cases r with
  | error e => exact (show False from hq).elim
  | ok fl =>
    cases fl with
    | ret u => exact I1.after hq
    | next => exact False.elim hq
    | brk => exact False.elim hq
    | cont => exact False.elim hq
end
/-! ### the def's run behind the call -/
def unN (n : Nat) : List Sl := List.replicate n .un
section
variable {K : PySem.W.Frag} {TG : TGx} {B : List (Nat × Addr)} {F G0 G H : Hp} {r : List Sl} {s : L2.St}
/-- slots of which nothing is known -/
theorem SR.bare (i : SR K TG B F G0 G H r s) (hev : TG.ev = none) {n : Nat} {s1 : L2.St} (hl : s1.length = n) : SR K TG [] (calF H s []) G G H (unN n) s1 := by
  have j := i.enter (as := []) (sl := []) (vs := []) rfl rfl rfl
  have un_ : ∀ (k : Nat) (x : Sl), (unN n)[k]? = some x → x = .un := fun k x e => List.eq_of_mem_replicate (List.mem_of_getElem? e)
  have own_ : ∀ (k : Nat) (w : Ow), (unN n)[k]?.bind Sl.own = some w → False := fun k w e => by
    cases q : (unN n)[k]? with
    | none => rw [q] at e; cases e
    | some x => rw [q, un_ k x q] at e; cases e
  exact ⟨by simp [unN, hl], j.gh, j.fh, j.g0, j.fg, j.gt, j.ft, j.tb, fun k d q => (by cases un_ k _ q), fun k w q => (own_ k w q).elim, fun k l a es es' _ q _ _ => (own_ k es q).elim, fun p hp => (by cases hp), fun k e q => (by cases un_ k _ q)⟩
/-- the caller's state behind it -/
theorem SR.ret0 (i : SR K TG B F G0 G H r s) {G1 H1 : Hp} {out : List Sl} {s1 : L2.St} (i1 : SR K TG [] (calF H s []) G G1 H1 out s1) : SR K TG B F G0 G1 H1 r s := i.back (as := []) (sl := []) (vs := []) rfl rfl i1
end
/-- what the rest of the def gives back -/
def finT (x : Res Fl) (r : List Sl) : Res PyData := match x with
  | .ok (.rt w) _ => .ok w r
  | .ok .nx _ => .ok .none r
  | _ => .st
/-- .. behind the handler -/
def endH (pst : M Fl) (rc r : List Sl) : Fl → Res PyData
  | .nx => finT (pst rc) r
  | .rt w => .ok w r
  | _ => .st
/-- n: how many names the def has; i: the exception's; set: the names that stand when the lambda has answered -/
def dTold (n i : Nat) (cs : List Str) (set : PyData → List Sl) (hd pst : M Fl) (d : M PyData) : M PyData := fun r => match d r with
  | .ok v r1 => finT (pst (set v)) r1
  | .ex e r1 => if cs.contains e.c then (match hd ((unN n).set i (.ev e)) with
    | .ok f rc => if freeAt i rc && noEv (rc.set i .un) then endH pst (rc.set i .un) r1 f else .st
    | _ => .st) else .st
  | .st => .st
section
variable {X : Cx} {TG : TGx} {W : WX}
/-- the def's readings: behind the lambda's answer v, behind its exception -/
def TTt (K : PySem.W.Frag) (TG : TGx) (CK : Value) (n i : Nat) (sv : Addr → V → L2.St) (hd pst : M Fl) : (XK → Hp → VK → Prop) → Hp → VK → Prop := fun tl H Q =>
  tl (fun cls dx H1 => PySem.W.exmOne K cls CK = some true ∧ ∀ (b : Addr) (σ : L2.St), H1 b = none → σ.length = n → rdS K (TG.at ⟨b, cls, dx⟩) W0 hd { nx := fun σ' H' => rdS K TG W0 pst { nx := fun _ H' => Q .non H', rt := Q } (σ'.set i none) H', rt := Q } (σ.set i (some (.ref b))) H1) H
    (fun v H1 => ∀ fa, rdS K TG W0 pst { nx := fun _ H' => Q .non H', rt := Q } (sv fa v) H1)
/-- what it makes of it -/
theorem rd_told {CK : Value} {cs : List Str} {n i : Nat} {set : PyData → List Sl} {sv : Addr → V → L2.St} {hd pst : M Fl} {d : M PyData} {s : L2.St} {H H1 : Hp} {Q : VK} (T : XExm X.K cs CK) (hi : i < n) (hev : TG.ev = none)
    (hset : ∀ (fa : Addr) (v : PyData) (u : V) (G H : Hp) (B : List (Nat × Addr)) (F G0 : Hp) (r : List Sl) (σ : L2.St), SR X.K TG B F G0 G H r σ → Rv X.K G v u → SR X.K TG [] (calF H σ []) G G H (set v) (sv fa u))
    (hL : ∀ {B : List (Nat × Addr)} {F G0 G : Hp} {r : List Sl}, SR X.K TG B F G0 G H r s → SR X.K TG B F G0 G H1 r s)
    (h : rd X.K TG W (RE X.K) (dTold n i cs set hd pst d) s H Q) : TTt X.K TG CK n i sv hd pst (fun E H' Q' => rd X.K TG (fun cls dx _ H2 => E cls dx H2) (RE X.K) d s H' Q') H1 Q := by
  obtain ⟨B, F, G0, G, r, i0, p⟩ := h
  refine ⟨B, F, G0, G, r, hL i0, ?_⟩
  -- the rest of the def, from a state of it
  have rest : ∀ (G' H' : Hp) (r1 : List Sl), Same G G' → SR X.K TG B F G0 G' H' r1 s → ∀ (rc : List Sl) (σc : L2.St) (G2 H2 : Hp), SR X.K TG [] (calF H' s []) G' G2 H2 rc σc → post X.K TG W (RE X.K) B F G0 G s Q (finT (pst rc) r1) → rdS X.K TG W0 pst { nx := fun _ H' => Q .non H', rt := Q } σc H2 := fun G' H' r1 e1 i1 rc σc G2 H2 ic p => by
    refine ⟨[], _, G', G2, rc, ic, ?_⟩
    cases hp : pst rc with
    | st => rw [hp] at p; exact p.elim
    | ex _ _ => rw [hp] at p; exact p.elim
    | ok f rc2 =>
      rw [hp] at p
      cases f with
      | nx => exact fun G3 H3 σ3 e3 i3 => p G3 H3 V.non (e1.trans i3.g0) (i1.ret0 i3) rfl
      | rt w => exact fun G3 H3 σ3 e3 i3 v rv => p G3 H3 v (e1.trans i3.g0) (i1.ret0 i3) rv
      | bk => exact p.elim
      | ct => exact p.elim
  unfold dTold at p
  cases hdr : d r with
  | st => rw [hdr] at p; exact p.elim
  | ok v r1 =>
    rw [hdr] at p
    intro G' H' u e1 i1 rv fa
    exact rest G' H' r1 e1 i1 _ _ G' H' (hset fa v u G' H' B F G0 r1 s i1 rv) p
  | ex e r1 =>
    rw [hdr] at p
    intro G' H' cls dx e1 i1 er
    have p2 : post X.K TG W (RE X.K) B F G0 G s Q (if cs.contains e.c then (match hd ((unN n).set i (.ev e)) with
      | .ok f rc => if freeAt i rc && noEv (rc.set i .un) then endH pst (rc.set i .un) r1 f else .st
      | _ => .st) else .st) := p
    clear p
    split at p2
    · rename_i hc
      have ec := er.1
      refine ⟨by rw [ec]; exact T _ (by simpa using hc), fun b σ hb hl => ?_⟩
      have ib : SR X.K TG [] (calF H' s []) G' G' H' (unN n) σ := i1.bare hev hl
      have ne : noEv (unN n) = true := by
        unfold noEv unN
        exact List.all_eq_true.mpr fun x hx => by rw [List.eq_of_mem_replicate hx]; rfl
      have iv := ib.toEv (z := ⟨b, cls, dx⟩) ne (j := i) (by simpa [unN] using hi) (fun y hy => by rw [List.eq_of_mem_replicate (List.mem_of_getElem? hy)]; rfl) er
      refine ⟨[], _, G', G', _, iv, ?_⟩
      cases hh : hd ((unN n).set i (.ev e)) with
      | st => rw [hh] at p2; exact p2.elim
      | ex _ _ => rw [hh] at p2; exact p2.elim
      | ok f rc =>
        rw [hh] at p2
        have p3 : post X.K TG W (RE X.K) B F G0 G s Q (if freeAt i rc && noEv (rc.set i .un) then endH pst (rc.set i .un) r1 f else .st) := p2
        split at p3
        · rename_i hc2
          rw [Bool.and_eq_true] at hc2
          have hio2 := (freeAt_io hc2.1).2
          intro G3 H3 σ3 e3 i3
          have i4 := (i3.un hio2).ofEv hc2.2
          cases f with
          | nx => exact rest G' H' r1 e1 i1 _ _ G3 H3 i4 p3
          | rt w => exact fun v rv => p3 G3 H3 v (e1.trans i4.g0) (i1.ret0 i4) rv
          | bk => exact p3.elim
          | ct => exact p3.elim
        · exact p3.elim
    · exact p2.elim
end
section
variable {X : Cx} {TG : TGx} {W : WX} {k : Nat} {Ng : List Str} {x a fo n ke q : Str} {sg : Scope} {g : Addr} {cdg CK : Value} {i j jc : Nat} {b₀ : Stmt} {suite rest : List Stmt} {hd pst : M Fl} {pc p1 p2 p3 p4 p5 p6 k1 k2 : Pos}
theorem start_set {Ng : List Str} {u : V} {j : Nat} {w : Option V} (h0 : 0 < Ng.length) (hj : j ≠ 0) : ((L2.start Ng [u]).set j w)[0]? = some (some u) := by
  rw [List.getElem?_set_ne hj]
  unfold L2.start
  rfl
theorem start_len {u : V} (h0 : 0 < Ng.length) : (L2.start Ng [u]).length = Ng.length := by
  unfold L2.start
  simp
  omega
/-- found = None / try: a() / except K as n: suite / rest -/
theorem gives_E (hN : Ng.Nodup) (h0 : Ng[0]? = some a) (hj : Ng[j]? = some fo) (hi : Ng[i]? = some n) (hj0 : j ≠ 0) (hi0 : i ≠ 0) (hla : Vis sg a) (hlf : Loc sg fo) (hln : sg.names.lookup n = some .local) (hk : sg.names.lookup ke = some .globalImplicit) (hmk : X.mg ke = some CK) (hdk : (ke == ("__debug__" : Str)) = false)
    (hh : ∀ (s : Shared) (H : Hp), Room (k + 1) (X.A.deeper (envOfC x sg s.heap.objs.size g cdg)) → ∀ (b : Addr) (oe : Obj) (cls : Value) (d : Option Addr) (pn : List (Addr × Obj)), Zc cls d oe → (∃ vs, oe.data = .fields vs) → DSs ((gCx X Ng x sg g cdg s H).suite b ((b, oe) :: pn)) (TG.at ⟨b, cls, d⟩) W0 (b₀ :: suite) hd)
    (hp : ∀ (s : Shared) (H : Hp), Room (k + 1) (X.A.deeper (envOfC x sg s.heap.objs.size g cdg)) → DSs (gCx X Ng x sg g cdg s H) TG W0 rest pst) :
    Gives X k Ng x sg g cdg (.Assign [.Name fo p1] (.Constant .none jc pc) p2 :: .Try [.Expr (.Call (.Name a p3) [] [] p4) p5] [.ExceptHandler (some (.Name ke p6)) (some n) (b₀ :: suite) k1] [] [] k2 :: rest) a q
      (TTt X.K TG CK Ng.length i (fun fa _ => (L2.start Ng [.ref fa]).set j (some .non)) hd pst) := by
  intro fa c1 s H Q tl hr act mono hc h
  have hl0 : 0 < Ng.length := (List.getElem?_eq_some_iff.mp h0).1
  have hb : ∀ (W : WX) (pn : List (Addr × Obj)) (xe : Value → Shared → Prop), Takes ((gCx X Ng x sg g cdg s H).tr pn xe) W → PassesOwn (model X.prog X.w) (gCx X Ng x sg g cdg s H).A (gCx X Ng x sg g cdg s H).env xe →
      PSs ((gCx X Ng x sg g cdg s H).tr pn xe) [.Expr (.Call (.Name a p3) [] [] p4) p5] (fun D σ H1 => ∃ Ech : XK, (∀ cls d σ' H', σ'.length = Ng.length → Ech cls d H' → W cls d σ' H') ∧ σ[0]? = some (some (.ref fa)) ∧ H1 c1 = some (CodeO c1 q) ∧ tl Ech H1 (fun v H' => D.nx σ H')) := fun W pn xe tk _ => by
    refine ⟨fun pins s1 σ H1 D I hh => ?_⟩
    obtain ⟨Ech, hW, h1, h2, h3⟩ := hh
    have tk2 : Takes ((gCx X Ng x sg g cdg s H).tr pn xe) (fun cls d σ H' => σ.length = Ng.length → W cls d σ H') := fun u s2 ⟨a0, B, sI, pi, σ0, H0, cls, d, e, I0, nb, up, sky, na, os, ag, w0⟩ =>
      tk u s2 ⟨a0, B, sI, pi, σ0, H0, cls, d, e, I0, nb, up, sky, na, os, ag, w0 I0.len⟩
    have hp := act (fun cls d σ H' => σ.length = Ng.length → W cls d σ H') pn xe Ech p3 p4 tk2 (fun cls d σ' H' e l => hW cls d σ' H' l e)
    exact (pss_one (ps_expr hp (by rfl))).run pins s1 σ H1 D I ⟨h1, h2, h3⟩
  refine ⟨_, pss_cons (ps_set (X := gCx X Ng x sg g cdg s H) (i := j) (x := fo) hN hj hlf pe_non (by rfl) (.inl rfl)) (pss_cons (ps_try_as (X := gCx X Ng x sg g cdg s H) (i := i) (Wout := fun _ _ _ _ => False)
    (ts := fun b cls d => rdS X.K (TG.at ⟨b, cls, d⟩) W0 hd) rfl rfl hN hi (show _ = _ from hln) ⟨hk, hdk, .inl hmk⟩ L2.takes0 hb (hh s H hr)) (hp s H hr)), ?_⟩
  refine ⟨fun cls dx H1 => PySem.W.exmOne X.K cls CK = some true ∧ ∀ (b : Addr) (σ : L2.St), H1 b = none → σ.length = Ng.length → rdS X.K (TG.at ⟨b, cls, dx⟩) W0 hd { nx := fun σ' H' => rdS X.K TG W0 pst { nx := fun _ H' => Q .non H', rt := Q } (σ'.set i none) H', rt := Q } (σ.set i (some (.ref b))) H1, ?_, start_set hl0 hj0, hc, mono _ _ _ _ (fun v H' q => q fa) h⟩
  intro cls dx σ' H' hl' ⟨e1, e2⟩
  refine ⟨true, e1, fun _ b hb => e2 b σ' hb hl', fun z => by cases z⟩
/-- try: found = a() / except K as n: suite / rest -/
theorem gives_A (hN : Ng.Nodup) (h0 : Ng[0]? = some a) (hj : Ng[j]? = some fo) (hi : Ng[i]? = some n) (hj0 : j ≠ 0) (hi0 : i ≠ 0) (hla : Vis sg a) (hlf : Loc sg fo) (hln : sg.names.lookup n = some .local) (hk : sg.names.lookup ke = some .globalImplicit) (hmk : X.mg ke = some CK) (hdk : (ke == ("__debug__" : Str)) = false)
    (hh : ∀ (s : Shared) (H : Hp), Room (k + 1) (X.A.deeper (envOfC x sg s.heap.objs.size g cdg)) → ∀ (b : Addr) (oe : Obj) (cls : Value) (d : Option Addr) (pn : List (Addr × Obj)), Zc cls d oe → (∃ vs, oe.data = .fields vs) → DSs ((gCx X Ng x sg g cdg s H).suite b ((b, oe) :: pn)) (TG.at ⟨b, cls, d⟩) W0 (b₀ :: suite) hd)
    (hp : ∀ (s : Shared) (H : Hp), Room (k + 1) (X.A.deeper (envOfC x sg s.heap.objs.size g cdg)) → DSs (gCx X Ng x sg g cdg s H) TG W0 rest pst) :
    Gives X k Ng x sg g cdg (.Try [.Assign [.Name fo p1] (.Call (.Name a p3) [] [] p4) p5] [.ExceptHandler (some (.Name ke p6)) (some n) (b₀ :: suite) k1] [] [] k2 :: rest) a q
      (TTt X.K TG CK Ng.length i (fun fa v => (L2.start Ng [.ref fa]).set j (some v)) hd pst) := by
  intro fa c1 s H Q tl hr act mono hc h
  have hl0 : 0 < Ng.length := (List.getElem?_eq_some_iff.mp h0).1
  have hb : ∀ (W : WX) (pn : List (Addr × Obj)) (xe : Value → Shared → Prop), Takes ((gCx X Ng x sg g cdg s H).tr pn xe) W → PassesOwn (model X.prog X.w) (gCx X Ng x sg g cdg s H).A (gCx X Ng x sg g cdg s H).env xe →
      PSs ((gCx X Ng x sg g cdg s H).tr pn xe) [.Assign [.Name fo p1] (.Call (.Name a p3) [] [] p4) p5] (fun D σ H1 => ∃ Ech : XK, (∀ cls d σ' H', σ'.length = Ng.length → Ech cls d H' → W cls d σ' H') ∧ σ[0]? = some (some (.ref fa)) ∧ H1 c1 = some (CodeO c1 q) ∧ tl Ech H1 (fun v H' => D.nx (σ.set j (some v)) H')) := fun W pn xe tk _ => by
    refine ⟨fun pins s1 σ H1 D I hh => ?_⟩
    obtain ⟨Ech, hW, h1, h2, h3⟩ := hh
    have tk2 : Takes ((gCx X Ng x sg g cdg s H).tr pn xe) (fun cls d σ H' => σ.length = Ng.length → W cls d σ H') := fun u s2 ⟨a0, B, sI, pi, σ0, H0, cls, d, e, I0, nb, up, sky, na, os, ag, w0⟩ =>
      tk u s2 ⟨a0, B, sI, pi, σ0, H0, cls, d, e, I0, nb, up, sky, na, os, ag, w0 I0.len⟩
    have hp := act (fun cls d σ H' => σ.length = Ng.length → W cls d σ H') pn xe Ech p3 p4 tk2 (fun cls d σ' H' e l => hW cls d σ' H' l e)
    exact (pss_one (ps_set (i := j) (x := fo) hN hj hlf hp (by rfl) (.inl rfl))).run pins s1 σ H1 D I ⟨h1, h2, h3⟩
  refine ⟨_, pss_cons (ps_try_as (X := gCx X Ng x sg g cdg s H) (i := i) (Wout := fun _ _ _ _ => False)
    (ts := fun b cls d => rdS X.K (TG.at ⟨b, cls, d⟩) W0 hd) rfl rfl hN hi (show _ = _ from hln) ⟨hk, hdk, .inl hmk⟩ L2.takes0 hb (hh s H hr)) (hp s H hr), ?_⟩
  refine ⟨fun cls dx H1 => PySem.W.exmOne X.K cls CK = some true ∧ ∀ (b : Addr) (σ : L2.St), H1 b = none → σ.length = Ng.length → rdS X.K (TG.at ⟨b, cls, dx⟩) W0 hd { nx := fun σ' H' => rdS X.K TG W0 pst { nx := fun _ H' => Q .non H', rt := Q } (σ'.set i none) H', rt := Q } (σ.set i (some (.ref b))) H1, ?_, (by unfold L2.start; rfl), hc, mono _ _ _ _ (fun v H' q => q fa) h⟩
  intro cls dx σ' H' hl' ⟨e1, e2⟩
  refine ⟨true, e1, fun _ b hb => e2 b σ' hb hl', fun z => by cases z⟩
end
section
variable {K : PySem.W.Frag} {TG : TGx} {B : List (Nat × Addr)} {F G0 G H : Hp} {r : List Sl} {s : L2.St}
theorem bare_set (i : SR K TG B F G0 G H r s) (hev : TG.ev = none) {n j : Nat} (hj : j < n) {s1 : L2.St} (hl : s1.length = n) {d : PyData} {v : V} (hv : Rv K G d v) : SR K TG [] (calF H s []) G G H ((unN n).set j (.v d)) (s1.set j (some v)) :=
  (i.bare hev hl).setv (by simpa [unN] using hj) (fun y hy => by rw [List.eq_of_mem_replicate (List.mem_of_getElem? hy)]; rfl) hv
end
section
variable {X : Cx} {TG : TGx} {W : WX} {x a y fo n ke : Str} {df : Option Int} {g c P : Addr} {CK : Value} {k NN i j jc : Nat} {pg : Arguments} {sg : Scope} {Ng : List Str} {fd : FuncData} {cs : List Str} {b₀ : Stmt} {suite rest bg : List Stmt} {hd pst : M Fl} {params : Arguments} {body : Expr} {scope : Scope} {d : M PyData} {p lpos pos pc p1 p2 p3 p4 p5 p6 k1 k2 : Pos}
theorem de_told0 {set : PyData → List Sl} {sv : Addr → V → L2.St} (hg : Gl X x) (hm : X.mg x = some (.ref g)) (F : FunD X.K x x pg bg sg [] [] g fd) (hb : L2.Binds X.K fd [a] []) (Sg : FnScope Ng [a] sg) (hNg : Ng[0]? = some a) (hva : Vis sg a) (hnn : Ng.length = NN) (hev : TG.ev = none) (T : XExm X.K cs CK) (hi : i < NN)
    (hG : ∀ cdg q, Gives X k Ng x sg g cdg bg a q (TTt X.K TG CK Ng.length i sv hd pst))
    (hset : ∀ (fa : Addr) (v : PyData) (u : V) (G H : Hp) (B : List (Nat × Addr)) (F G0 : Hp) (r : List Sl) (σ : L2.St), SR X.K TG B F G0 G H r σ → Rv X.K G v u → SR X.K TG [] (calF H σ []) G G H (set v) (sv fa u))
    (TB : GxR.TabB X.base X.mg c P) (hcode : X.env.code = .ref c) (hP : (⟨P, some (X.env.qual ++ "<lambda>")⟩ : TbK) ∈ TG ∧ ∀ z ∈ TG, z.P = P → z.q = some (X.env.qual ++ "<lambda>")) (hr : Room (k + 2) X.A) (L : LamP X.N (dnOf y df) X.env.scope scope) (hdef : DefOk params X.env df) (hbind : BndOk y params body scope df)
    (hbody : ∀ (A : Around) (outer : List Env) (s : Shared) (H : Hp) (E : XK) (f1 c1 : Addr), Room k (A.deeper (lamEnv X scope s.heap.objs.size f1 c1)) → DE (lamCx X A outer s H E scope f1 c1) TG (fun cls dx _ H1 => E cls dx H1) body d)
    (hdb : (x == ("__debug__" : Str)) = false := by decide) (hd1 : (a == ("__debug__" : Str)) = false := by decide) (hcd : (a == ("__classdict__" : Str)) = false := by decide) :
    DE X TG W (.Call (.Name x p) [.Lambda params body scope lpos] [] pos) (dTold NN i cs set hd pst d) := by
  obtain ⟨oc, od, dV, kV, doc, pm, an, cdv, ct, osl, rfl, lk, hcg, _, _⟩ := F.ex
  subst hnn
  refine PE_imp (pe_lamQ (t := fun E => rd X.K TG (fun cls dx _ H1 => E cls dx H1) (RE X.K) d) hg hm F.kp lk hcg hb Sg hNg hva (hG cdv _) ⟨TB.code, TB.bm, TB.gP⟩ hcode hr L hdef hbind (fun A outer s H E f1 c1 h => hbody A outer s H E f1 c1 h) (fun σ E H Q Q' w q => by
    obtain ⟨B, F, G0, G, r, i0, pp⟩ := q
    exact ⟨B, F, G0, G, r, i0, post_imp w _ pp⟩) hdb hd1 hcd) fun s H Q q => ?_
  have tb : TabQ H ⟨P, some (X.env.qual ++ "<lambda>")⟩ := by
    obtain ⟨B, FF, G0, G, r, i0, pp⟩ := q
    exact i0.tb _ hP.1
  exact ⟨tb, fun H1 lx T1 => rd_told T hi hev hset (fun i0 => i0.lam hP lx T1) q⟩
theorem de_toldE (hg : Gl X x) (hm : X.mg x = some (.ref g)) (F : FunD X.K x x pg (.Assign [.Name fo p1] (.Constant .none jc pc) p2 :: .Try [.Expr (.Call (.Name a p3) [] [] p4) p5] [.ExceptHandler (some (.Name ke p6)) (some n) (b₀ :: suite) k1] [] [] k2 :: rest) sg [] [] g fd) (hb : L2.Binds X.K fd [a] []) (Sg : FnScope Ng [a] sg)
    (hNg : Ng[0]? = some a) (hva : Vis sg a) (hnn : Ng.length = NN) (hev : TG.ev = none) (T : XExm X.K cs CK) (hi : Ng[i]? = some n) (hj : Ng[j]? = some fo) (hj0 : j ≠ 0) (hi0 : i ≠ 0) (hlf : Loc sg fo) (hln : sg.names.lookup n = some .local) (hk : sg.names.lookup ke = some .globalImplicit) (hmk : X.mg ke = some CK) (hdk : (ke == ("__debug__" : Str)) = false)
    (hh : ∀ (cdg : Value) (s : Shared) (H : Hp), Room (k + 1) (X.A.deeper (envOfC x sg s.heap.objs.size g cdg)) → ∀ (b : Addr) (oe : Obj) (cls : Value) (d : Option Addr) (pn : List (Addr × Obj)), Zc cls d oe → (∃ vs, oe.data = .fields vs) → DSs ((gCx X Ng x sg g cdg s H).suite b ((b, oe) :: pn)) (TG.at ⟨b, cls, d⟩) W0 (b₀ :: suite) hd)
    (hp : ∀ (cdg : Value) (s : Shared) (H : Hp), Room (k + 1) (X.A.deeper (envOfC x sg s.heap.objs.size g cdg)) → DSs (gCx X Ng x sg g cdg s H) TG W0 rest pst)
    (TB : GxR.TabB X.base X.mg c P) (hcode : X.env.code = .ref c) (hP : (⟨P, some (X.env.qual ++ "<lambda>")⟩ : TbK) ∈ TG ∧ ∀ z ∈ TG, z.P = P → z.q = some (X.env.qual ++ "<lambda>")) (hr : Room (k + 2) X.A) (L : LamP X.N (dnOf y df) X.env.scope scope) (hdef : DefOk params X.env df) (hbind : BndOk y params body scope df)
    (hbody : ∀ (A : Around) (outer : List Env) (s : Shared) (H : Hp) (E : XK) (f1 c1 : Addr), Room k (A.deeper (lamEnv X scope s.heap.objs.size f1 c1)) → DE (lamCx X A outer s H E scope f1 c1) TG (fun cls dx _ H1 => E cls dx H1) body d)
    (hdb : (x == ("__debug__" : Str)) = false := by decide) (hd1 : (a == ("__debug__" : Str)) = false := by decide) (hcd : (a == ("__classdict__" : Str)) = false := by decide) :
    DE X TG W (.Call (.Name x p) [.Lambda params body scope lpos] [] pos) (dTold NN i cs (fun _ => (unN NN).set j (.v .none)) hd pst d) := by
  have li := (List.getElem?_eq_some_iff.mp hi).1
  have lj := (List.getElem?_eq_some_iff.mp hj).1
  refine de_told0 (sv := fun fa _ => (L2.start Ng [.ref fa]).set j (some .non)) hg hm F hb Sg hNg hva hnn hev T (by omega) (fun cdg q => gives_E Sg.nd hNg hj hi hj0 hi0 hva hlf hln hk hmk hdk (hh cdg) (hp cdg)) (fun fa v u G H B F G0 r σ i0 _ => ?_) TB hcode hP hr L hdef hbind hbody hdb hd1 hcd
  exact bare_set i0 hev (by omega) (by rw [← hnn]; exact start_len (by omega)) (d := .none) (v := V.non) rfl
theorem de_toldA (hg : Gl X x) (hm : X.mg x = some (.ref g)) (F : FunD X.K x x pg (.Try [.Assign [.Name fo p1] (.Call (.Name a p3) [] [] p4) p5] [.ExceptHandler (some (.Name ke p6)) (some n) (b₀ :: suite) k1] [] [] k2 :: rest) sg [] [] g fd) (hb : L2.Binds X.K fd [a] []) (Sg : FnScope Ng [a] sg)
    (hNg : Ng[0]? = some a) (hva : Vis sg a) (hnn : Ng.length = NN) (hev : TG.ev = none) (T : XExm X.K cs CK) (hi : Ng[i]? = some n) (hj : Ng[j]? = some fo) (hj0 : j ≠ 0) (hi0 : i ≠ 0) (hlf : Loc sg fo) (hln : sg.names.lookup n = some .local) (hk : sg.names.lookup ke = some .globalImplicit) (hmk : X.mg ke = some CK) (hdk : (ke == ("__debug__" : Str)) = false)
    (hh : ∀ (cdg : Value) (s : Shared) (H : Hp), Room (k + 1) (X.A.deeper (envOfC x sg s.heap.objs.size g cdg)) → ∀ (b : Addr) (oe : Obj) (cls : Value) (d : Option Addr) (pn : List (Addr × Obj)), Zc cls d oe → (∃ vs, oe.data = .fields vs) → DSs ((gCx X Ng x sg g cdg s H).suite b ((b, oe) :: pn)) (TG.at ⟨b, cls, d⟩) W0 (b₀ :: suite) hd)
    (hp : ∀ (cdg : Value) (s : Shared) (H : Hp), Room (k + 1) (X.A.deeper (envOfC x sg s.heap.objs.size g cdg)) → DSs (gCx X Ng x sg g cdg s H) TG W0 rest pst)
    (TB : GxR.TabB X.base X.mg c P) (hcode : X.env.code = .ref c) (hP : (⟨P, some (X.env.qual ++ "<lambda>")⟩ : TbK) ∈ TG ∧ ∀ z ∈ TG, z.P = P → z.q = some (X.env.qual ++ "<lambda>")) (hr : Room (k + 2) X.A) (L : LamP X.N (dnOf y df) X.env.scope scope) (hdef : DefOk params X.env df) (hbind : BndOk y params body scope df)
    (hbody : ∀ (A : Around) (outer : List Env) (s : Shared) (H : Hp) (E : XK) (f1 c1 : Addr), Room k (A.deeper (lamEnv X scope s.heap.objs.size f1 c1)) → DE (lamCx X A outer s H E scope f1 c1) TG (fun cls dx _ H1 => E cls dx H1) body d)
    (hdb : (x == ("__debug__" : Str)) = false := by decide) (hd1 : (a == ("__debug__" : Str)) = false := by decide) (hcd : (a == ("__classdict__" : Str)) = false := by decide) :
    DE X TG W (.Call (.Name x p) [.Lambda params body scope lpos] [] pos) (dTold NN i cs (fun v => (unN NN).set j (.v v)) hd pst d) := by
  have li := (List.getElem?_eq_some_iff.mp hi).1
  have lj := (List.getElem?_eq_some_iff.mp hj).1
  refine de_told0 (sv := fun fa v => (L2.start Ng [.ref fa]).set j (some v)) hg hm F hb Sg hNg hva hnn hev T (by omega) (fun cdg q => gives_A Sg.nd hNg hj hi hj0 hi0 hva hlf hln hk hmk hdk (hh cdg) (hp cdg)) (fun fa v u G H B F G0 r σ i0 rv => ?_) TB hcode hP hr L hdef hbind hbody hdb hd1 hcd
  exact bare_set i0 hev (by omega) (by rw [← hnn]; exact start_len (by omega)) rv
end
end TW

end
section
/-! bool(a tuple or a list); tables by their addresses -/
namespace TWB
open PySem PySem.Spec PyProof.Rows
theorem meets_tup (l : Addr) (items : Array Value) (hfit : (items.size : Int) < 2 ^ 63) :
    Meets (Builtin.«bool.__new__» ⟨[.type "bool", .ref l], []⟩) (fun _ R s => IsTup s.heap l items ∧ R (.ok (.ret (.bool (!items.isEmpty)))) { s with toks := s.toks + 1 + 1 }) :=
  Meets.of_wp fun prog w A R s hs => by
    obtain ⟨hl, hs⟩ := hs
    obtain ⟨hp, g, d, tk, os⟩ := s
    have f1 := PySem.F.conv_sub_bool
    repeat (any_goals (first | assumption | (with_reducible refine truthy_tuple hl hfit ?_) | wp_step))
    all_goals first | exact ⟨_, rfl, hs⟩ | exact hs | skip
end TWB
namespace TW
open PySem PySem.Spec PyProof.Rows L2
theorem call_boolT {X : Cx} : CallR X (.type "bool") (fun xs H Q => ∃ (a : Addr) (zs : List V), xs = [.ref a] ∧ SqT X.K H a zs ∧ Q (.bl (!zs.isEmpty)) H) := by
  intro pins s σ H xs us Q I r h
  obtain ⟨a, zs, rfl, hq, q⟩ := h
  obtain rfl := Vals.ref1 r
  obtain ⟨its, rv, pl, hz⟩ := I.tuple hq
  have hl := line63
  have hlen := rv.length
  exact call_bool_1 (TWB.meets_tup a its.toArray (by simp only [List.size_toArray]; omega)) ⟨pl, rfl, ⟨.bl (!zs.isEmpty), H, I.tok _, by rw [isEmpty_of rv]; rfl, q⟩⟩
def fBool : List PyData → Option Rz
  | [.tuple ds] => some (.v (.bool (!ds.isEmpty)))
  | [.list ds] => some (.v (.bool (!ds.isEmpty)))
  | _ => none
theorem RvA.emp {K : PySem.W.Frag} {G : Hp} {ds : List PyData} {xs : List V} (h : RvA K G ds xs) : xs.isEmpty = ds.isEmpty := by
  have e := h.len
  cases ds <;> cases xs <;> simp at e ⊢
theorem oa_bool {X : Cx} {hs : NestedKey → Int} : OpA X hs (fun xs H Q => (∃ (a : Addr) (zs : List V), xs = [.ref a] ∧ SqL X.K H a zs ∧ Q (.bl (!zs.isEmpty)) H) ∨ ∃ (a : Addr) (zs : List V), xs = [.ref a] ∧ SqT X.K H a zs ∧ Q (.bl (!zs.isEmpty)) H) fBool := by
  intro ds z xs G H Q gh hz h qx qv ql
  unfold fBool at hz
  split at hz
  · cases hz
    obtain ⟨x, rfl, hx⟩ := h.one
    obtain ⟨a, ys, rfl, h1, h2⟩ := (show Rv X.K G (.tuple _) x from hx)
    exact .inr ⟨_, _, rfl, same_t gh h1, by rw [h2.emp]; exact qv _ rfl G H _ (.refl gh) rfl⟩
  · cases hz
    obtain ⟨x, rfl, a, ys, rfl, h1, h2⟩ := h.one
    exact .inl ⟨_, _, rfl, .inl (.inl h1), by rw [h2.emp]; exact qv _ rfl G H _ (.refl gh) rfl⟩
  · cases hz
section
variable {X : Cx} {TG : TGx} {W : WX} {e : Expr} {ra : M (List Arg)} {p2 pos : Pos}
theorem dx_bool (hg : Gl X "bool") (hm : X.mg "bool" = none) (ha : DA X TG W [e] ra) (he : starEach [e] X.env = (false, eval e X.env) :: starEach [] X.env := by rfl) : DX X TG W (.Call (.Name "bool" p2) [e] [] pos) (xFn fBool ra) := dx_fnT (call_boolL.or call_boolT) oa_bool hg hm rfl ha (by decide) (by decide) he
end
theorem tb_uniq : ∀ {TG : List TbK}, (TG.map (·.P)).Nodup → ∀ {z y : TbK}, z ∈ TG → y ∈ TG → z.P = y.P → z = y
  | [], _, z, _, h, _, _ => by cases h
  | a :: TG, hn, z, y, hz, hy, e => by
    rw [List.map_cons, List.nodup_cons] at hn
    rcases List.mem_cons.mp hz with q1 | q1
    · rcases List.mem_cons.mp hy with q2 | q2
      · rw [q1, q2]
      · exact absurd (List.mem_map_of_mem (f := fun x : TbK => x.P) q2) (by show ¬ y.P ∈ _; rw [← e, q1]; exact hn.1)
    · rcases List.mem_cons.mp hy with q2 | q2
      · exact absurd (List.mem_map_of_mem (f := fun x : TbK => x.P) q1) (by show ¬ z.P ∈ _; rw [e, q2]; exact hn.1)
      · exact tb_uniq hn.2 q1 q2 e
end TW

end
section
/-! len(set(e)), e a list or tuple of numbers; xs.count(d) -/
namespace TW
open PySem PySem.Spec PyProof.Rows L2
/-- each once -/
def dedI : List Int → List Int
  | [] => []
  | x :: r => if (dedI r).any (· == x) then dedI r else x :: dedI r
theorem dedI_mem : ∀ {ns : List Int} {k : Int}, k ∈ dedI ns ↔ k ∈ ns
  | [], k => Iff.rfl
  | x :: r, k => by
    unfold dedI
    split
    · rename_i h
      obtain ⟨y, hy, e⟩ := List.any_eq_true.mp h
      have e : y = x := beq_iff_eq.mp e
      subst e
      rw [dedI_mem, List.mem_cons]
      exact ⟨.inr, fun z => z.elim (fun z => by rw [z]; exact dedI_mem.mp hy) id⟩
    · rw [List.mem_cons, List.mem_cons, dedI_mem]
theorem dedI_nd : ∀ ns : List Int, (dedI ns).Nodup
  | [] => List.nodup_nil
  | x :: r => by
    unfold dedI
    split
    · exact dedI_nd r
    · rename_i h
      refine List.nodup_cons.mpr ⟨fun hx => h (List.any_eq_true.mpr ⟨x, hx, by simp⟩), dedI_nd r⟩
theorem nd_len {a b : List Int} (ha : a.Nodup) (hb : b.Nodup) (h : ∀ k, k ∈ a ↔ k ∈ b) : a.length = b.length :=
  ((List.perm_ext_iff_of_nodup ha hb).mpr h).length_eq
theorem firstMet_mem (val : Nat → Int) : ∀ (i : Nat) (k : Int), k ∈ firstMet val i ↔ ∃ j, j < i ∧ val j = k
  | 0, k => by
    rw [firstMet_zero]
    exact ⟨fun h => (by cases h), fun ⟨j, h, _⟩ => absurd h (Nat.not_lt_zero _)⟩
  | i + 1, k => by
    have ih := firstMet_mem val i
    rw [firstMet_succ]
    unfold step_dedup
    split
    · rename_i h
      obtain ⟨y, hy, e⟩ := List.any_eq_true.mp h
      have e0 : y = val i := beq_iff_eq.mp e
      clear e
      subst e0
      rw [ih]
      refine ⟨fun ⟨j, h, e⟩ => ⟨j, by omega, e⟩, fun ⟨j, h, e⟩ => ?_⟩
      by_cases hj : j = i
      · subst hj; obtain ⟨j2, h2, e2⟩ := (ih _).mp hy; exact ⟨j2, h2, e2.trans e⟩
      · exact ⟨j, by omega, e⟩
    · rw [List.mem_append, ih, List.mem_singleton]
      refine ⟨fun h => h.elim (fun ⟨j, h, e⟩ => ⟨j, by omega, e⟩) fun e => ⟨i, by omega, e.symm⟩, fun ⟨j, h, e⟩ => ?_⟩
      by_cases hj : j = i
      · subst hj; exact .inr e.symm
      · exact .inl ⟨j, by omega, e⟩
theorem firstMet_nd (val : Nat → Int) : ∀ i, (firstMet val i).Nodup
  | 0 => by rw [firstMet_zero]; exact List.nodup_nil
  | i + 1 => by
    rw [firstMet_succ]
    unfold step_dedup
    split
    · exact firstMet_nd val i
    · rename_i h
      refine List.nodup_append.mpr ⟨firstMet_nd val i, List.nodup_cons.mpr ⟨by simp, List.nodup_nil⟩, fun a ha b hb e => ?_⟩
      rw [List.mem_singleton] at hb
      exact h (List.any_eq_true.mpr ⟨a, ha, by rw [e, hb]; simp⟩)
theorem firstMet_ded (ns : List Int) : (firstMet (fun i => ns.getD i 0) ns.length).length = (dedI ns).length := nd_len (firstMet_nd _ _) (dedI_nd _) fun k => by
  rw [firstMet_mem, dedI_mem]
  constructor
  · rintro ⟨j, hj, rfl⟩
    rw [List.getD_eq_getElem?_getD, List.getElem?_eq_getElem hj]
    exact List.getElem_mem hj
  · intro h
    obtain ⟨j, hj, e⟩ := List.getElem_of_mem h
    exact ⟨j, hj, by rw [List.getD_eq_getElem?_getD, List.getElem?_eq_getElem hj]; exact e⟩
section
variable {X : Cx}
def tLenSetG (K : PySem.W.Frag) (ta : TE) : TE := fun σ H Q => ta σ H fun x H1 => ∃ (l : Addr) (ns : List Int), x = V.ref l ∧ (SqL K H1 l (ns.map V.int) ∨ SqT K H1 l (ns.map V.int)) ∧ ns.length ≤ 1000 ∧ Q (.int (dedI ns).length) H1
theorem pe_lenSetG {a : Expr} {ta : TE} {p p2 q pos : Pos} (hc : X.calm = true) (hg : Gl X "len") (hm : X.mg "len" = none) (hg2 : Gl X "set") (hm2 : X.mg "set" = none) (ha : PE X a ta)
    (na : starEach [a] X.env = (false, eval a X.env) :: starEach [] X.env := by rfl) : PE X (.Call (.Name "len" p) [.Call (.Name "set" p2) [a] [] q] [] pos) (tLenSetG X.K ta) := by
  refine ⟨fun pins s σ H Q I h => Call_ (ld_blt I hg hm PySem.boot_len (PyProof.Rows.callWith_builtin1 (PyProof.Rows.args_cons (Call_ (ld_blt I hg2 hm2 PyProof.Rows.boot_set
    (PyProof.Rows.callWith_type1 (PyProof.Rows.args_cons (thn (ha.run pins s σ H _ I h) fun v s1 ⟨x, H1, I1, r1, q1⟩ => PyProof.Rows.args_nil ?_) na) na rfl))) rfl) rfl rfl))⟩
  obtain ⟨l, ns, rfl, hq, hz0, q1⟩ := q1
  cases r1
  have hd := I1.ok.hd hc
  rcases hq with hq | hq
  · obtain ⟨its, r, pl, hz⟩ := I1.list hq
    have hl : its.toArray.size = ns.length := by rw [List.size_toArray, ← r.length, List.length_map]
    refine call_set_list hd pl.isList (ns := ns) (by simpa using r.ints) (by unfold scanBound; omega) fun h1 tk hS hk => PyProof.Rows.args_nil ?_
    obtain ⟨o, es, ep, t, ho, hex, hdt, _, _, _, hf, hn⟩ := hS
    rw [hl, firstMet_ded] at hn
    have hb : (dedI ns).length ≤ ns.length := by
      rw [← firstMet_ded]; exact firstMet_length_le _ _
    have I2 : Inv X pins σ H1 { s1 with heap := h1, toks := tk } := I1.kept fun b o e => hk b o (Heap.lt_size e) e
    exact call_len_set ho hex hdt hf (by rw [hn]; omega) ⟨.int (dedI ns).length, H1, I2.tok _, ⟨_, by rw [hn]⟩, q1⟩
  · obtain ⟨its, rv, pt, hz⟩ := I1.tuple hq
    refine call_set_tupI ns hd (show s1.heap.IsTuple l its.toArray from pt) (ints_of_vals rv) (by unfold scanBound; omega) fun h1 tk c R1 hcn k => PyProof.Rows.args_nil ?_
    obtain ⟨o, es, ep, t, ho, hex, hdt, g, nd, hm2, hb, hf, hn, hr, hl2⟩ := R1
    have he : es.size = (dedI ns).length := by
      have := nd_len nd (dedI_nd ns) fun j => by rw [dedI_mem, ← hm2 j, decide_eq_true_eq]
      rw [List.length_map, Array.length_toList] at this
      exact this
    have hb : (dedI ns).length ≤ 1000 := by
      have := firstMet_length_le (fun i => ns.getD i 0) ns.length
      rw [firstMet_ded] at this
      omega
    have I2 : Inv X pins σ H1 { s1 with heap := h1, toks := tk } := I1.kept fun b o e => k b o e
    exact call_len_set ho hex hdt hf (by rw [he]; omega) ⟨.int (dedI ns).length, H1, I2.tok _, ⟨_, by rw [he]⟩, q1⟩
end
def fLenSet : PyData → Option PyData
  | .list ds => (intsOf ds).bind fun ns => if ns.length ≤ 1000 then some (.int (dedI ns).length) else none
  | .tuple ds => (intsOf ds).bind fun ns => if ns.length ≤ 1000 then some (.int (dedI ns).length) else none
  | _ => none
def dLenSet (o : M Arg) : M PyData := o.bind fun x r => match reso r x with
  | some d => (M.opt (fLenSet d) : M PyData) r
  | none => .st
section
variable {X : Cx} {TG : TGx} {W : WX} {a o e : Expr} {es : List Expr} {dob : M Arg} {p p2 q pos apos : Pos} {ra : M (List Arg)}
theorem de_lenSet (hc : X.calm = true) (hg : Gl X "len") (hm : X.mg "len" = none) (hg2 : Gl X "set") (hm2 : X.mg "set" = none) (ho : DO X TG W a dob) (na : starEach [a] X.env = (false, eval a X.env) :: starEach [] X.env := by rfl) :
    DE X TG W (.Call (.Name "len" p) [.Call (.Name "set" p2) [a] [] q] [] pos) (dLenSet dob) := PE_imp (pe_lenSetG hc hg hm hg2 hm2 ho na) fun s H Q h => by
  obtain ⟨B, F, G0, G, r0, i0, p0⟩ := rd_bind (R1 := RO X.K s) h
  refine ⟨B, F, G0, G, r0, i0, post_imp (fun x H1 q => ?_) _ p0⟩
  obtain ⟨B, F, G0, G1, r1, d, i1, v1, p1⟩ := q
  cases hd : reso r1 d with
  | none => simp only [hd] at p1; exact p1.elim
  | some u =>
    simp only [hd] at p1
    have ru := ro_of i1 v1 hd
    cases u with
    | list ds =>
      cases hn : intsOf ds with
      | none => simp only [fLenSet, hn, Option.bind] at p1; exact p1.elim
      | some ns =>
        simp only [fLenSet, hn, Option.bind] at p1
        split at p1
        · rename_i hz
          obtain ⟨b, ys, rfl, h1, h2⟩ := ru
          have e := ints_rv hn h2
          subst e
          exact ⟨b, ns, rfl, .inl (.inl (.inl h1)), hz, p1 G1 H1 _ (.refl _) i1 rfl⟩
        · exact p1.elim
    | tuple ds =>
      cases hn : intsOf ds with
      | none => simp only [fLenSet, hn, Option.bind] at p1; exact p1.elim
      | some ns =>
        simp only [fLenSet, hn, Option.bind] at p1
        split at p1
        · rename_i hz
          obtain ⟨b, ys, rfl, h1, h2⟩ := (show Rv X.K G1 (.tuple ds) x from ru)
          have e := ints_rv hn h2
          subst e
          exact ⟨b, ns, rfl, .inr (same_t i1.gh h1), hz, p1 G1 H1 _ (.refl _) i1 rfl⟩
        · exact p1.elim
    | _ => exact p1.elim
end
end TW

end
section
namespace TW
open PySem PySem.Spec PyProof.Rows L2

/-! ### x.count(e) -/
def fCount : PyData → List PyData → Option PyData
  | .list ds, [d] => if SeqAt.shaped (.list ds) && SeqAt.shaped d then some (.int (ds.countP fun z => PyData.eqv z d : Nat)) else none
  | _, _ => none
def rCountD (K : PySem.W.Frag) : V → List V → Hp → VK → Prop := fun x xs H Q => ∃ (a : Addr) (y : V) (d : PyData) (ds : List PyData), x = V.ref a ∧ xs = [y] ∧ Dp K H (V.ref a) (.list ds) ∧ Dp K H y d ∧ SeqAt.shaped (.list ds) = true ∧ SeqAt.shaped d = true ∧ Q (.int (ds.countP fun z => PyData.eqv z d : Nat)) H
section
variable {X : Cx}
theorem mt_countD (hu : X.A.units + 65 < cLine) : MtR X "list.count" (rCountD X.K) := by
  intro pins s σ H x xs v us Q I rx rxs ⟨a, y, d, ds, e1, e2, hl, hy, sl, sd, q⟩
  subst e1 e2
  cases rx
  obtain _ | ⟨ry, rt⟩ := rxs
  cases rt
  obtain ⟨bs, rr⟩ := Dp.reads I d y _ hy ry
  cases hl with
  | lst hs ha =>
    obtain ⟨its, rv, ⟨⟨cl, di, da, so⟩, n, ho, hcl, hdn, hda⟩, _⟩ := I.list hs
    simp only at hcl hda
    subst hcl hda
    obtain ⟨as, ra⟩ := Dp.readsAll I ds _ its ha rv
    have lay := SeqAt.canLay_of_shaped sl
    have e3 : its.map (SeqAt.readOf s.heap) = ds := SeqAt.readsAll_map ds its as lay ra
    refine call_meets PySem.F.slot_list_count ⟨_, ho, rfl⟩ PySem.F.entry_list_count (PySem.F.args_list_count_2 _ _) (SeqAt.list_countAt a its.toArray n di so _ (fun u => PyData.eqv (SeqAt.readOf s.heap u) d))
      ⟨ho, SeqAt.items_eqAt (vs := its.toArray) (show ReadsAll s.heap its.toArray.toList ds as from ra) rr lay (SeqAt.canLay_of_shaped sd) (room_in_shaped sd hu), ?_⟩
    have e4 : its.toArray.toList.countP (fun u => PyData.eqv (SeqAt.readOf s.heap u) d) = ds.countP fun z => PyData.eqv z d := by
      rw [← e3, List.countP_map]
      rfl
    rw [e4]
    exact ⟨.int (ds.countP fun z => PyData.eqv z d : Nat), H, I.tok _, ⟨_, rfl⟩, q⟩
theorem vr_count {hs : NestedKey → Int} : ValR X hs "list" (rCountD X.K) fCount := by
  intro d es z x ys G H Q gh hf hx hy q
  unfold fCount at hf
  split at hf
  · split at hf
    · rename_i ds e hs
      rw [Bool.and_eq_true] at hs
      cases hf
      obtain ⟨y, rfl, hy1⟩ := hy.one
      have hdp := Ro.dp gh hs.1 hx
      obtain ⟨a, xs, rfl, h1, h2⟩ := hx
      exact ⟨a, y, e, ds, rfl, rfl, hdp, Ro.dp gh hs.2 hy1, hs.1, hs.2, q G H _ (.refl gh) rfl⟩
    · cases hf
  · cases hf
variable {TG : TGx} {W : WX} {o e : Expr} {es : List Expr} {ra : M (List Arg)} {pos apos : Pos} {dob : M Arg}
theorem de_count (hu : X.A.units + 65 < cLine) (ho : DO X TG W o dob) (ha : DA X TG W (e :: es) ra) (hbase : attributeBase o "count" X.env (eval o X.env) = eval o X.env := by rfl)
    (hfew : ((backTo pos (starEach (e :: es) X.env)).all (fun x => !x.1) && (backToKw pos (keywordEach [] X.env)).all (fun x => x.1.isSome)
      && decide ((e :: es).length + ([] : List Keyword).length + (if ([] : List Keyword).isEmpty then 0 else 1) < 30)) = true := by rfl)
    (hline : (apos.endLine == pos.line) = true := by rfl) (hs : starEach (e :: es) X.env = (false, eval e X.env) :: starEach es X.env := by rfl) (hplain : (backTo pos (starEach es X.env)).any (·.1) = false := by rfl) :
    DE X TG W (.Call (.Attribute o "count" apos) (e :: es) [] pos) (mValT "list" fCount dob ra) := PE_imp (pe_bm F.plainAttrs_list F.slot_list_count F.type_list_count (mt_countD hu) ho ha hbase hfew hline hs hplain) fun s H Q q => rd_val (by decide) vr_count q
end
end TW

end
section
namespace TW
open PySem PySem.Spec PyProof.Rows L2 GenW

/-! ### generator expressions of two clauses -/
abbrev ge2 (elt tg iter : Expr) (ifs : List Expr) (tg1 iter1 : Expr) (ifs1 : List Expr) (scope : Scope) (pos : Pos) : Expr := .GeneratorExp elt [⟨tg, iter, ifs, 0⟩, ⟨tg1, iter1, ifs1, 0⟩] scope pos
theorem genTurn_out (elt t0 i0 t1 i1 : Expr) (ifs0 ifs1 : List Expr) (scope : Scope) (pos : Pos) (it acc : Value) (env : Env) :
    compTurn (ge2 elt t0 i0 ifs0 t1 i1 ifs1 scope pos) 0 it acc env = (do
      standAt i0.pos
      match ← pyNext it with
      | none => pure (.done .next)
      | some v =>
        letOwnedTupleGo t0 it v
        assign t0 env v
        let mut ok := true
        for q in ifs0 do
          if ok then ok ← isTrue q env (eval q env)
        if ok then
          let x ← eval i1 env
          standAt i1.pos
          let x ← foldedSetIterable i1 env x
          let _ ← runOwn (.compStart (ge2 elt t0 i0 ifs0 t1 i1 ifs1 scope pos) 1 (← holding [x] (pyIter x)) acc env) env
        again (.compLoop (ge2 elt t0 i0 ifs0 t1 i1 ifs1 scope pos) 0 it acc env)) := by rfl
theorem genTurn_in (elt t0 i0 t1 i1 : Expr) (ifs0 ifs1 : List Expr) (scope : Scope) (pos : Pos) (it acc : Value) (env : Env) :
    compTurn (ge2 elt t0 i0 ifs0 t1 i1 ifs1 scope pos) 1 it acc env = (do
      standAt i1.pos
      match ← pyNext it with
      | none => pure (.done .next)
      | some v =>
        letOwnedTupleGo t1 it v
        assign t1 env v
        let mut ok := true
        for q in ifs1 do
          if ok then ok ← isTrue q env (eval q env)
        if ok then
          (do let v ← eval elt env; standAt elt.pos; let _ ← yieldOut env v)
        again (.compLoop (ge2 elt t0 i0 ifs0 t1 i1 ifs1 scope pos) 1 it acc env)) := by rfl
theorem eval_gen2 (elt t0 i0 t1 i1 : Expr) (ifs0 ifs1 : List Expr) (scope : Scope) (pos : Pos) (env : Env) (hco : scope.isCoroutine = false) :
    eval (ge2 elt t0 i0 ifs0 t1 i1 ifs1 scope pos) env = (do
      let xv ← eval i0 env
      standAt i0.pos
      let xw ← genFold i0 env xv
      let it ← holding [xw] (pyIter xw)
      enterFrame
      let cl ← closureFor scope env
      let co ← genexprCode env pos (env.qual ++ "<genexpr>") scope
      let bt ← builtinsFor env.globals env.builtins
      let ce ← newFunctionEnv scope env.globals cl [(".0", it)] (env.qual ++ "<genexpr>.") none co none bt
      newGenerator (.compStart (ge2 elt t0 i0 ifs0 t1 i1 ifs1 scope pos) 0 it .none ce) "<genexpr>" (env.qual ++ "<genexpr>")) := by
  rw [arm_eval_GeneratorExp]
  simp only [hco, if_neg Bool.false_ne_true]
  cases i0 <;> rfl
theorem over2 {A : Around} {elt t0 i0 t1 i1 : Expr} {ifs0 ifs1 : List Expr} {scope : Scope} {pos : Pos} {it it1 acc : Value} {env : Env} {k : Result → Sem Fin} {g : Bool} {l : List Value} {p : Pos} :
    A.over (.compLoop (ge2 elt t0 i0 ifs0 t1 i1 ifs1 scope pos) 1 it1 acc env) [.ret k none g l (.compLoop (ge2 elt t0 i0 ifs0 t1 i1 ifs1 scope pos) 0 it acc env) p []] = A.deeper env := by rfl
theorem over2s {A : Around} {elt t0 i0 t1 i1 : Expr} {ifs0 ifs1 : List Expr} {scope : Scope} {pos : Pos} {it it1 acc : Value} {env : Env} {k : Result → Sem Fin} {g : Bool} {l : List Value} {p : Pos} :
    A.over (.compStart (ge2 elt t0 i0 ifs0 t1 i1 ifs1 scope pos) 1 it1 acc env) [.ret k none g l (.compLoop (ge2 elt t0 i0 ifs0 t1 i1 ifs1 scope pos) 0 it acc env) p []] = A.deeper env := by rfl
section
variable {X : Cx} {pins : List (Addr × Obj)} {σ : L2.St} {H : Hp} {s : Shared}
/-- the inner clause's turns -/
def TurnsI (stop : Bool) (J : It) (g : L2.TG) (tt : TT) (te : TE) (vs : List Nat) (σ : L2.St) (Q : VK) (Nx : Nat → Hp → Prop) (W : Nat → Nat → Hp → Prop) : Prop := ∀ j k H, W j k H →
  (J.stop j H ∧ Nx k H) ∨ (J.go j H ∧ ∃ N1 : Hp → Prop, (∀ H', N1 H' → ∃ k', k' < k ∧ W (j + 1) k' H') ∧ ∀ x H', J.yld j H x H' → g x (L2.wipe σ vs) H' fun σ2 H2 => L2.wipe σ2 vs = L2.wipe σ vs ∧ tt σ2 H2 fun b H3 =>
    if b = true then te σ2 H3 fun y H4 => ∃ k, y = .bl k ∧ (if k = stop then Q (.bl stop) H4 else N1 H4) else N1 H3)
/-- the outer's -/
def TurnsO (stop : Bool) (J : It) (g : L2.TG) (tt : TT) (wi1 : TI) (g1 : L2.TG) (tt1 : TT) (te : TE) (vs vs1 : List Nat) (σ : L2.St) (Q : VK) (W : Nat → Nat → Hp → Prop) : Prop := ∀ i m H, W i m H →
  (J.stop i H ∧ Q (.bl (!stop)) H) ∨ (J.go i H ∧ ∃ Nx : Nat → Hp → Prop, (∀ k H', Nx k H' → ∃ m', m' ≤ k ∧ W (i + 1) m' H') ∧ ∀ x H', J.yld i H x H' → g x (L2.wipe σ vs) H' fun σ2 H2 => L2.wipe σ2 vs = L2.wipe σ vs ∧ tt σ2 H2 fun b H3 =>
    if b = true then wi1 σ2 H3 fun J1 H4 => ∃ W1 : Nat → Nat → Hp → Prop, (∃ k, k < m ∧ W1 0 k H4) ∧ TurnsI stop J1 g1 tt1 te vs1 σ2 Q Nx W1 else ∃ k, k < m ∧ Nx k H3)
def tGen2 (stop : Bool) (P : Addr) (wi : TI) (g : L2.TG) (tt : TT) (wi1 : TI) (g1 : L2.TG) (tt1 : TT) (te : TE) (vs vs1 : List Nat) : TE := fun σ H Q => wi σ H fun J H1 => GxR.TabG H1 P ∧ ∀ H2, GxR.Tabbed P H1 H2 → ∃ W : Nat → Nat → Hp → Prop, (∃ m, W 0 m H2) ∧ TurnsO stop J g tt wi1 g1 tt1 te vs vs1 σ Q W
theorem gen_in {A : Around} {s3 : Shared} {H3 : Hp} {scope : Scope} {code : Value} {fp fp1 : List Addr} {C a it it1 : Addr} {go : Obj} {gn : Nat} {stop : Bool} {J1 : It} {g1 : L2.TG} {tt1 : TT} {te : TE} {vs1 : List Nat} {Q : VK} {Nx : Nat → Hp → Prop} {W1 : Nat → Nat → Hp → Prop} {tn1 : Nat → Heap → Prop} {elt tg iter tg1 iter1 : Expr} {ifs ifs1 : List Expr} {pos : Pos}
    {p1 : List (Addr × Obj)} {σ8 : L2.St} {H11 : Hp} {kf : Result → Sem Fin} {gf : Bool} {lf : List Value} {pf : Pos} {kM : Nat}
    (hc : X.calm = true) (hco : scope.isCoroutine = false) (hgen : ∀ h : Heap, h.get? a = some go → h.IsGen a gn)
    (back : ∀ {σ' : L2.St} {H' : Hp} {s' : Shared}, Inv (gcx X A s3 H3 (gnEnv X scope C code) fp [(a, go)]) [] σ' H' s' → Inv X pins σ H' s')
    (T1 : Turn X.prog X.w X.K tg1 J1 fp1 it1 tn1) (f11 : ∀ b ∈ fp1, FpOk (gcx X A s3 H3 (gnEnv X scope C code) fp [(a, go)]) p1 H11 b)
    (pg1 : PG (gcx X A s3 H3 (gnEnv X scope C code) fp [(a, go)]) tg1 g1) (pt1 : PTs (gcx X A s3 H3 (gnEnv X scope C code) fp [(a, go)]) ifs1 tt1) (pe : PE (gcx X A s3 H3 (gnEnv X scope C code) fp [(a, go)]) elt te) (turn1 : TurnsI stop J1 g1 tt1 te vs1 σ8 Q Nx W1)
    (hgf : gf = false)
    (hend : ∀ (k n : Nat) (s₀ s' : Shared) (H' : Hp), k ≤ kM → k < n → Nx k H' → Inv (gcx X A s3 H3 (gnEnv X scope C code) fp [(a, go)]) p1 (L2.wipe σ8 vs1) H' s' →
      Seg (model X.prog X.w) A (fun n s₀ r s₁ => r = .ok .next ∧ GEnd X pins σ Q stop n s₀ s₁) (GItem X pins σ Q stop a gn) n s₀ (.compLoop (ge2 elt tg iter ifs tg1 iter1 ifs1 scope pos) 0 (.ref it) .none (gnEnv X scope C code)) (kf (.ok .next)) [] s') :
    ∀ (k n j : Nat) (s₀ s' : Shared) (H' : Hp), k ≤ kM → k < n → W1 j k H' → Inv (gcx X A s3 H3 (gnEnv X scope C code) fp [(a, go)]) p1 (L2.wipe σ8 vs1) H' s' → tn1 j s'.heap → (∀ b ∈ fp1, H' b = none) →
      Seg (model X.prog X.w) A (fun n s₀ r s₁ => r = .ok .next ∧ GEnd X pins σ Q stop n s₀ s₁) (GItem X pins σ Q stop a gn) n s₀
        (.compLoop (ge2 elt tg iter ifs tg1 iter1 ifs1 scope pos) 1 (.ref it1) .none (gnEnv X scope C code))
        ((model X.prog X.w).den (.compLoop (ge2 elt tg iter ifs tg1 iter1 ifs1 scope pos) 1 (.ref it1) .none (gnEnv X scope C code)))
        [.ret kf none gf lf (.compLoop (ge2 elt tg iter ifs tg1 iter1 ifs1 scope pos) 0 (.ref it) .none (gnEnv X scope C code)) pf []] s' := by
  have stat1 : ∀ {H' : Hp}, (∀ b ∈ fp1, H' b = none) → ∀ b ∈ fp1, FpOk (gcx X A s3 H3 (gnEnv X scope C code) fp [(a, go)]) p1 H' b := fun hn b hb => ⟨hn b hb, (f11 b hb).2⟩
  intro k
  induction k using Nat.strongRecOn with
  | _ k ih =>
    intro n j s₀ s' H' hkM hkn w I st nf
    obtain ⟨n, rfl⟩ : ∃ k, n = k + 1 := ⟨n - 1, by omega⟩
    show Seg _ A _ _ _ s₀ _ ((compTurn (ge2 elt tg iter ifs tg1 iter1 ifs1 scope pos) 1 (.ref it1) .none (gnEnv X scope C code)).onRaise (fun x => do noteFrame x (gnEnv X scope C code); theTreesLotGoes x)) _ s'
    rw [genTurn_in, Sem.onRaise_eq_wrap]
    refine seg_bind_wrap (wpAny_standAt ?_)
    rcases turn1 j k H' w with ⟨hstop, nx⟩ | ⟨hgo, N1, hN1, step⟩
    · refine seg_bind_wrap (thnF (T1.done (gcx X A s3 H3 (gnEnv X scope C code) fp [(a, go)]) rfl rfl rfl hc j p1 s' _ H' (fun _ _ => False) I (stat1 nf) st hstop) fun r s6 ⟨hr, I6⟩ => ?_)
      subst hr
      exact seg_leaf (.ok .next) (hend k _ _ _ _ hkM hkn nx I6)
    · refine seg_bind_wrap (thnF (T1.item (gcx X A s3 H3 (gnEnv X scope C code) fp [(a, go)]) rfl rfl rfl hc j p1 s' _ H' (fun _ _ => False) I (stat1 nf) st hgo) fun r s6 ⟨u, hr, h6⟩ => ?_)
      subst hr
      refine seg_bind_wrap (thnF h6 fun _ s7 ⟨x, H7, I7, r7, y7, st7, n7⟩ => ?_)
      have I7' := I7.pinned (stat1 n7) (T1.obj _ _ st7)
      refine seg_bind_wrap (thnF (pg1.run _ s7 _ H7 x u _ I7' r7 (step x H7 y7)) fun _ s8 ⟨σ15, H8, I8, hw8, q8⟩ => ?_)
      refine seg_bind_wrap (thnF (pt1.run _ s8 σ15 H8 _ I8 q8) fun b s9 ⟨H9, I9, q9⟩ => ?_)
      have fin : ∀ {s' : Shared} {H' : Hp}, Inv (gcx X A s3 H3 (gnEnv X scope C code) fp [(a, go)]) (p1 ++ pinsAt fp1 s7.heap) σ15 H' s' → N1 H' → ∃ m', m' < k ∧ W1 (j + 1) m' H' ∧ Inv (gcx X A s3 H3 (gnEnv X scope C code) fp [(a, go)]) p1 (L2.wipe σ8 vs1) H' s' ∧ tn1 (j + 1) s'.heap ∧ (∀ b ∈ fp1, H' b = none) := fun {s' H'} I' nx => by
        obtain ⟨m', hm, w'⟩ := hN1 H' nx
        have pin' : ∀ b ∈ fp1, ∀ o, s7.heap.get? b = some o → s'.heap.get? b = some o ∧ H' b = none := fun b hb o e =>
          let z := I'.pin (b, o) (List.mem_append_right _ (List.mem_append_right _ (mem_pinsAt hb e)))
          ⟨z.1, z.2.1⟩
        have hl : (L2.wipe σ8 vs1).length = σ15.length := by rw [← hw8, L2.wipe_length]
        refine ⟨m', hm, w', I'.unpinned.weak hl (fun j v e => ?_), T1.keep _ _ _ st7 fun b hb o e => (pin' b hb o e).1, fun b hb => ?_⟩
        · rw [← hw8] at e
          exact (L2.wipe_some e).1
        · obtain ⟨o, e, _⟩ := T1.obj _ _ st7 b hb
          exact (pin' b hb o e).2
      cases b with
      | false =>
        simp only [Bool.false_eq_true, if_false] at q9 ⊢
        obtain ⟨m', hm, w', J', st', nf'⟩ := fin I9 q9
        exact seg_again rfl (ih m' hm (n + 1) (j + 1) s₀ s9 H9 (by omega) (by omega) w' J' st' nf')
      | true =>
        simp only [if_true] at q9 ⊢
        have hy : ∀ v, yieldOut (gnEnv X scope C code) v = yieldValue v := fun v => by
          unfold yieldOut
          rw [show (gnEnv X scope C code).scope.isCoroutine = false from hco]
          rfl
        simp only [hy]
        rw [Sem.bind_eq_wrap', Sem.bind_eq_wrap', Sem.wrap_wrap, Sem.wrap_wrap]
        refine seg_wrap (thnF (pe.run _ s9 σ15 H9 _ I9 q9) fun z s10 ⟨yv, H10, I10, r10, k, hk, q10⟩ => ?_)
        subst hk
        cases r10
        refine seg_at (seg_yield rfl rfl (by simp [Frame.guarded, hgf]) ⟨k, rfl, I10.bare, fun e => ?_, fun e => ?_⟩)
        · rw [if_pos e] at q10
          exact ⟨H10, back (Inv.unpinned (pins := []) (pl := p1 ++ pinsAt fp1 s7.heap) I10), q10⟩
        · rw [if_neg e] at q10
          obtain ⟨m', hm, w', J', st', nf'⟩ := fin I10 q10
          refine ⟨hgen _ (J'.pin (a, go) (by simp)).1, J'.nolimit, fun s'' eh eo eb => ?_⟩
          exact seg_again rfl (ih m' hm n (j + 1) s'' s'' H10 (by omega) (by omega) w' (Inv.alike J' eh eo eb) (by rw [eh]; exact st') nf')
theorem gen_loop2 {A : Around} {s3 : Shared} {H3 : Hp} {scope : Scope} {code : Value} {fp : List Addr} {C a it : Addr} {go : Obj} {gn : Nat} {stop : Bool} {J : It} {g : L2.TG} {tt : TT} {te : TE} {vs : List Nat} {Q : VK} {W : Nat → Nat → Hp → Prop} {tn : Nat → Heap → Prop} {elt tg iter tg1 iter1 : Expr} {ifs ifs1 : List Expr} {wi1 : TI} {g1 : L2.TG} {tt1 : TT} {vs1 : List Nat} {pos : Pos}
    (hc : X.calm = true) (hco : scope.isCoroutine = false) (I3 : Inv X pins σ H3 s3) (f3 : ∀ b ∈ fp, FpOk X pins H3 b) (hgen : ∀ h : Heap, h.get? a = some go → h.IsGen a gn) (T : Turn X.prog X.w X.K tg J fp it tn)
    (pg : PG (gcx X A s3 H3 (gnEnv X scope C code) fp [(a, go)]) tg g) (pt : PTs (gcx X A s3 H3 (gnEnv X scope C code) fp [(a, go)]) ifs tt) (pe : PE (gcx X A s3 H3 (gnEnv X scope C code) fp [(a, go)]) elt te) (pi1 : PI (gcx X A s3 H3 (gnEnv X scope C code) fp [(a, go)]) tg1 iter1 wi1) (pg1 : PG (gcx X A s3 H3 (gnEnv X scope C code) fp [(a, go)]) tg1 g1) (pt1 : PTs (gcx X A s3 H3 (gnEnv X scope C code) fp [(a, go)]) ifs1 tt1) (hs1 : ∀ env x, foldedSetIterable iter1 env x = pure x) (hv : ∀ i ∈ vs1, i ∈ vs) (turn : TurnsO stop J g tt wi1 g1 tt1 te vs vs1 σ Q W) (ha : a ∉ fp) :
    ∀ (m : Nat) (n i : Nat) (s₀ s : Shared) (H' : Hp), m < n → W i m H' → Inv (gcx X A s3 H3 (gnEnv X scope C code) fp [(a, go)]) [] (L2.wipe σ vs) H' s → tn i s.heap → (∀ b ∈ fp, H' b = none) →
      Seg (model X.prog X.w) A (fun n s₀ r s₁ => r = .ok .next ∧ GEnd X pins σ Q stop n s₀ s₁) (GItem X pins σ Q stop a gn) n s₀
        (.compLoop (ge2 elt tg iter ifs tg1 iter1 ifs1 scope pos) 0 (.ref it) .none (gnEnv X scope C code))
        ((model X.prog X.w).den (.compLoop (ge2 elt tg iter ifs tg1 iter1 ifs1 scope pos) 0 (.ref it) .none (gnEnv X scope C code))) [] s := by
  have stat : ∀ {σ' : L2.St} {H' : Hp} {s' : Shared}, Inv (gcx X A s3 H3 (gnEnv X scope C code) fp [(a, go)]) [] σ' H' s' → (∀ b ∈ fp, H' b = none) → ∀ b ∈ fp, FpOk (gcx X A s3 H3 (gnEnv X scope C code) fp [(a, go)]) [] H' b := fun {σ' H' s'} I' hn b hb =>
    ⟨hn b hb, (I'.ok.exf b hb).1, I'.ok.exfs b hb, .inl hb, fun x c e => (I'.ok.exf b hb).2 x c e, fun p hp z => by
      have hp : p ∈ [(a, go)] ++ ([] : List (Addr × Obj)) := hp
      rw [List.append_nil] at hp
      rw [List.mem_singleton.mp hp] at z
      have z : a = b := z
      exact ha (by rw [z]; exact hb)⟩
  have back : ∀ {σ' : L2.St} {H' : Hp} {s' : Shared}, Inv (gcx X A s3 H3 (gnEnv X scope C code) fp [(a, go)]) [] σ' H' s' → Inv X pins σ H' s' := fun {σ' H' s'} I' =>
    I3.call' (ch := fp) I'.os I'.base I'.hok I'.bare fun b hb => ⟨(f3 b hb).2.2.2.1, (f3 b hb).2.1, (f3 b hb).2.2.2.2.1, (f3 b hb).2.2.2.2.2⟩
  intro m
  induction m using Nat.strongRecOn with
  | _ m ih =>
    intro n i s₀ s H' hmn w I st nf
    obtain ⟨n, rfl⟩ : ∃ k, n = k + 1 := ⟨n - 1, by omega⟩
    show Seg _ A _ _ _ s₀ _ ((compTurn (ge2 elt tg iter ifs tg1 iter1 ifs1 scope pos) 0 (.ref it) .none (gnEnv X scope C code)).onRaise (leaving (gnEnv X scope C code))) [] s
    rw [genTurn_out, Sem.onRaise_eq_wrap]
    refine seg_bind_wrap (wpAny_standAt ?_)
    rcases turn i m H' w with ⟨hstop, qq⟩ | ⟨hgo, Nx, hNx, step⟩
    · refine seg_bind_wrap (thnF (T.done (gcx X A s3 H3 (gnEnv X scope C code) fp [(a, go)]) rfl rfl rfl hc i [] s _ H' (fun _ _ => False) I (stat I nf) st hstop) fun r s6 ⟨hr, I6⟩ => ?_)
      subst hr
      exact seg_end (.ok .next) ⟨rfl, H', back I6, qq⟩
    · refine seg_bind_wrap (thnF (T.item (gcx X A s3 H3 (gnEnv X scope C code) fp [(a, go)]) rfl rfl rfl hc i [] s _ H' (fun _ _ => False) I (stat I nf) st hgo) fun r s6 ⟨u, hr, h6⟩ => ?_)
      subst hr
      refine seg_bind_wrap (thnF h6 fun _ s7 ⟨x, H7, I7, r7, y7, st7, n7⟩ => ?_)
      have I7' := I7.pinned (stat I7 n7) (T.obj _ _ st7)
      refine seg_bind_wrap (thnF (pg.run _ s7 _ H7 x u _ I7' r7 (step x H7 y7)) fun _ s8 ⟨σ8, H8, I8, hw8, q8⟩ => ?_)
      refine seg_bind_wrap (thnF (pt.run _ s8 σ8 H8 _ I8 q8) fun b s9 ⟨H9, I9, q9⟩ => ?_)
      have fin : ∀ {σ9 : L2.St} {s' : Shared} {H' : Hp} {k : Nat}, k < m → Inv (gcx X A s3 H3 (gnEnv X scope C code) fp [(a, go)]) ([] ++ pinsAt fp s7.heap) σ9 H' s' → (L2.wipe σ vs).length = σ9.length → (∀ (j : Nat) v, (L2.wipe σ vs)[j]? = some (some v) → σ9[j]? = some (some v)) → Nx k H' →
          ∃ m', m' ≤ k ∧ W (i + 1) m' H' ∧ Inv (gcx X A s3 H3 (gnEnv X scope C code) fp [(a, go)]) [] (L2.wipe σ vs) H' s' ∧ tn (i + 1) s'.heap ∧ (∀ b ∈ fp, H' b = none) := fun {σ9 s' H' k} hkm I' hl hk nx => by
        obtain ⟨m', hm, w'⟩ := hNx k H' nx
        have pin' : ∀ b ∈ fp, ∀ o, s7.heap.get? b = some o → s'.heap.get? b = some o ∧ H' b = none := fun b hb o e =>
          let z := I'.pin (b, o) (List.mem_append_right _ (List.mem_append_right _ (mem_pinsAt hb e)))
          ⟨z.1, z.2.1⟩
        refine ⟨m', hm, w', (I'.unpinned (pins := [])).weak hl hk, T.keep _ _ _ st7 fun b hb o e => (pin' b hb o e).1, fun b hb => ?_⟩
        obtain ⟨o, e, _⟩ := T.obj _ _ st7 b hb
        exact (pin' b hb o e).2
      have hl8 : (L2.wipe σ vs).length = σ8.length := by rw [← hw8, L2.wipe_length]
      have hk8 : ∀ (j : Nat) v, (L2.wipe σ vs)[j]? = some (some v) → σ8[j]? = some (some v) := fun j v e => by
        rw [← hw8] at e
        exact (L2.wipe_some e).1
      have hk9 : ∀ (j : Nat) v, (L2.wipe σ vs)[j]? = some (some v) → (L2.wipe σ8 vs1)[j]? = some (some v) := fun j v e => by
        rw [← hw8] at e
        obtain ⟨e1, e2⟩ := L2.wipe_some e
        rw [L2.wipe_out fun z => e2 (hv j z)]
        exact e1
      cases b with
      | false =>
        simp only [Bool.false_eq_true, if_false] at q9 ⊢
        obtain ⟨k, hkm, nx⟩ := q9
        obtain ⟨m', hm, w', J', st', nf'⟩ := fin hkm I9 hl8 hk8 nx
        exact seg_again rfl (ih m' (by omega) (n + 1) (i + 1) s₀ s9 H9 (by omega) w' J' st' nf')
      | true =>
        simp only [if_true] at q9 ⊢
        refine seg_bind_wrap (thnF (pi1.run _ s9 σ8 H9 _ I9 q9) fun xv s10 hx => ?_)
        refine seg_bind_wrap (wpAny_standAt ?_)
        refine seg_bind_wrap (wpAny_of_eq (hs1 _ xv) ?_)
        refine seg_bind_wrap (wpAny_holding (thnF hx fun itv s11 h11 => ?_))
        obtain ⟨it1, fp1, tn1, J1, H11, e1, I11, T1, st11, f11, W1, ⟨k1, hk1, w1⟩, turn1⟩ := h11
        subst e1
        refine seg_call fun pf => ?_
        have st0 : L2.wipe σ8 vs1 = L2.wipe σ8 vs1 := rfl
        have I12 := I11.weak (L2.wipe_length σ8 vs1) (fun j v e => (L2.wipe_some e).1)
        show Seg _ A _ _ _ s₀ _ ((compStart (ge2 elt tg iter ifs tg1 iter1 ifs1 scope pos) 1 (.ref it1) .none (gnEnv X scope C code)).onRaise (fun x => do noteFrame x (gnEnv X scope C code); standAt theWindowsPlace)) _ s11
        unfold compStart
        rw [Sem.onRaise_eq_wrap]
        show Seg _ A _ _ _ s₀ _ ((ask >>= _).wrap _ _ _ _) _ s11
        refine seg_bind_wrap (wpAny_askSetting ?_)
        split
        · refine seg_again rfl (gen_in (ifs := ifs) (iter := iter) (iter1 := iter1) (tg := tg) (it := it) (pos := pos) (pf := pf) (kM := k1) (vs1 := vs1) hc hco hgen back T1 f11 pg1 pt1 pe turn1 rfl (fun k n s₀ s' H' hkM hkn nx I' => ?_) k1 (n + 1) 0 s₀ s11 H11 (Nat.le_refl _) (by omega) w1 I12 st11 (fun b hb => (f11 b hb).1))
          obtain ⟨m', hm, w', J', st', nf'⟩ := fin (k := k) (by omega) I' (hl8.trans (L2.wipe_length σ8 vs1).symm) hk9 nx
          exact seg_again rfl (ih m' (by omega) n (i + 1) s₀ s' H' (by omega) w' J' st' nf')
        · refine seg_bind_wrap (wpAny_rule ?_)
          show Seg _ A _ _ _ s₀ _ ((standAt iter1.pos >>= _).wrap _ _ _ _) _ s11
          refine seg_bind_wrap (wpAny_standAt (seg_bind_wrap (T1.self _ 0 s11 _ _ st11 (seg_again rfl (gen_in (ifs := ifs) (iter := iter) (iter1 := iter1) (tg := tg) (it := it) (pos := pos) (pf := pf) (kM := k1) (vs1 := vs1) hc hco hgen back T1 f11 pg1 pt1 pe turn1 rfl (fun k n s₀ s' H' hkM hkn nx I' => ?_) k1 (n + 1) 0 s₀ s11 H11 (Nat.le_refl _) (by omega) w1 I12 st11 (fun b hb => (f11 b hb).1))))))
          obtain ⟨m', hm, w', J', st', nf'⟩ := fin (k := k) (by omega) I' (hl8.trans (L2.wipe_length σ8 vs1).symm) hk9 nx
          exact seg_again rfl (ih m' (by omega) n (i + 1) s₀ s' H' (by omega) w' J' st' nf')
theorem gen_made2 {prog : Program} {w : World} {A : Around} {E : Value → Shared → Prop} {s : Shared} {env : Env} {elt t0 i0 t1 i1 : Expr} {ifs0 ifs1 : List Expr} {scope : Scope} {cl : List (Str × Addr)} {pos : Pos} {Q : Value → Shared → Prop}
    (hco : scope.isCoroutine = false) (hclos : closureFor scope env = pure cl) (hcell : ∀ y ∈ scope.names, y.2 ≠ .cell) (h0 : scope.names.lookup (".0" : Str) = some NameKind.local) (hkind : scope.kind = .function) (hroom : A.depth < recursionLimit)
    (h : wpAny (model prog w) A (eval i0 env) (fun xv sa => wpAny (model prog w) A (pyIter xv) (fun it sb => sb.heap.NoLimit ∧
      wpAny (model prog w) A (genexprCode env pos (env.qual ++ "<genexpr>") scope) (fun co sc => wpAny (model prog w) A (builtinsFor env.globals env.builtins) (fun bt sd =>
        ∀ h', h'.Ns sd.heap.objs.size (fun y => if y = ".0" then some it else none) → Heap.SameBut sd.heap.objs.size (sd.heap.push { cls := .type "frame", data := .dict #[] }) h' →
          Q (.ref h'.objs.size) { sd with
            gens := sd.gens.push (.fresh (.compStart (ge2 elt t0 i0 ifs0 t1 i1 ifs1 scope pos) 0 it .none (genEnv scope cl sd.heap.objs.size co bt env))), toks := sd.toks + 1 + 1 + 1,
            heap := h'.push { cls := .type "generator", data := .fields #[.int sd.gens.size 0, .str "<genexpr>" (sd.toks + 1), .str (env.qual ++ "<genexpr>") (sd.toks + 1 + 1)] } }) E sc) E sb) E sa) E s)
    (hs : ∀ x, genFold i0 env x = pure x) : wpAny (model prog w) A (eval (ge2 elt t0 i0 ifs0 t1 i1 ifs1 scope pos) env) Q E s := by
  rw [eval_gen2 _ _ _ _ _ _ _ _ _ _ hco, hclos]
  refine wpAny_bind (wpAny_mono h (fun xv sa ha => wpAny_bind (wpAny_standAt (wpAny_bind (wpAny_of_eq (hs xv) (wpAny_bind (wpAny_holding (wpAny_mono ha (fun it sb hb => ?_) fun _ _ q => q))))))) fun _ _ q => q)
  refine wpAny_bind (wpAny_enterFrame hb.1 hroom (wpAny_bind (wpAny_pure (wpAny_bind (wpAny_mono hb.2 (fun co sc hc => wpAny_bind (wpAny_mono hc (fun bt sd hd => ?_) fun _ _ q => q)) fun _ _ q => q)))))
  have hb0 : ∀ y ∈ ([((".0" : Str), it)] : List (Str × Value)), scope.names.lookup y.1 = some NameKind.local := fun y hy => by
    rw [List.mem_singleton.mp hy]
    exact h0
  refine wpAny_bind (wpAny_newFunctionEnv hcell hb0 (fun h' hn hsb => ?_) hkind)
  have e : (fun y : Str => ([((".0" : Str), it)] : List (Str × Value)).reverse.lookup y) = fun y : Str => if y = (".0" : Str) then some it else none := funext fun y => by
    by_cases hy : y = ".0"
    · subst hy
      simp
    · have z : (y == (".0" : Str)) = false := by simpa using hy
      simp [List.lookup, z, hy]
  rw [e] at hn
  simp only [newGenerator, newFields]
  exact wpAny_bind (wpAny_newGen (wpAny_bind (wpAny_mkText (wpAny_bind (wpAny_mkText (wpAny_newObj_type (hd h' hn hsb) (by size_fits)))))))
/-- what the parts are in the generator's frame -/
structure GenPs2 (X : Cx) (k : Nat) (scope : Scope) (tg elt : Expr) (ifs : List Expr) (tg1 iter1 : Expr) (ifs1 : List Expr) (g : L2.TG) (tt : TT) (wi1 : TI) (g1 : L2.TG) (tt1 : TT) (te : TE) : Prop extends GenPs X k scope tg elt ifs g tt te where
  i1 : ∀ (A : Around) (s : Shared) (H : Hp) (C : Addr) (code : Value) (fp : List Addr) (pn : List (Addr × Obj)), Room k (A.deeper (gnEnv X scope C code)) → PI (gcx X A s H (gnEnv X scope C code) fp pn) tg1 iter1 wi1
  g1 : ∀ (A : Around) (s : Shared) (H : Hp) (C : Addr) (code : Value) (fp : List Addr) (pn : List (Addr × Obj)), Room k (A.deeper (gnEnv X scope C code)) → PG (gcx X A s H (gnEnv X scope C code) fp pn) tg1 g1
  t1 : ∀ (A : Around) (s : Shared) (H : Hp) (C : Addr) (code : Value) (fp : List Addr) (pn : List (Addr × Obj)), Room k (A.deeper (gnEnv X scope C code)) → PTs (gcx X A s H (gnEnv X scope C code) fp pn) ifs1 tt1
theorem gen_make2 {stop : Bool} {c P : Addr} {k : Nat} {wi : TI} {g : L2.TG} {tt : TT} {te : TE} {Q : VK} {elt tg iter tg1 iter1 : Expr} {ifs ifs1 : List Expr} {wi1 : TI} {g1 : L2.TG} {tt1 : TT} {vs1 : List Nat} {scope : Scope} {own : List (Str × Nat)} {gpos : Pos}
    (hc : X.calm = true) (hN : X.N.Nodup) (hr : X.A.depth < recursionLimit) (TB : GxR.TabB X.base X.mg c P) (hcode : X.env.code = .ref c) (S : GnS X.N X.env.scope scope own) (hi : PI X tg iter wi) (ps : GenPs2 X k scope tg elt ifs tg1 iter1 ifs1 g tt wi1 g1 tt1 te)
    (hs : ∀ v, genFold iter X.env v = pure v) (hs1 : ∀ env x, foldedSetIterable iter1 env x = pure x) (hv : ∀ i ∈ vs1, i ∈ own.map (·.2)) (I : Inv X pins σ H s) (h : tGen2 stop P wi g tt wi1 g1 tt1 te (own.map (·.2)) vs1 σ H Q) :
    wpAny (model X.prog X.w) X.A (eval (ge2 elt tg iter ifs tg1 iter1 ifs1 scope gpos) X.env) (Ready X pins σ Q stop k) X.xe s := by
  have hfree : ∀ y ∈ scope.names, y.2 = .free → ∃ c, X.env.cells.lookup y.1 = some c := fun y hy e => by
    rcases S.free y hy e with k | k
    · exact I.ok.has _ (.inl k)
    · exact I.ok.has _ (.inr k)
  refine gen_made2 S.co (closure_ok hfree) S.cell S.dot S.kind hr (thn (hi.run pins s σ H _ I h) fun xv s1 h1 => thn h1 fun itv s2 h2 => ?_) hs
  obtain ⟨it, fp, tn, J, H2, rfl, I2, T, st2, f2, ⟨ps0, hP, ht⟩, q⟩ := h2
  refine ⟨I2.nolimit, ?_⟩
  have hPs : s2.heap.get? P = some { cls := .none, data := .fields ps0 } := I2.hok P _ hP
  have hPlt : P < s2.heap.objs.size := Heap.lt_size hPs
  have cd : PySem.W.CodeHd s2.heap c P := TB.code.keeps fun b u e => I2.bk b u e
  -- behind the code object's lookup
  have cont : ∀ (code : Value) (h3 : Heap) (tk : Nat) (ps' : Array Value), Heap.ExtBut P s2.heap h3 → h3.get? P = some { cls := .none, data := .fields ps' } → (∃ more, ps' = ps0 ++ more) → TriplesOk ps'.toList →
      wpAny (model X.prog X.w) X.A (builtinsFor X.env.globals X.env.builtins) (fun bi s₄ => ∀ h', h'.Ns s₄.heap.objs.size (fun y => if y = ".0" then some (.ref it) else none) → Heap.SameBut s₄.heap.objs.size (s₄.heap.push { cls := .type "frame", data := .dict #[] }) h' →
        Ready X pins σ Q stop k (.ref h'.objs.size) { s₄ with
          gens := s₄.gens.push (.fresh (.compStart (ge2 elt tg iter ifs tg1 iter1 ifs1 scope gpos) 0 (.ref it) .none (genEnv scope (cloFrom X.env.cells scope.names []) s₄.heap.objs.size code bi X.env))),
          toks := s₄.toks + 1 + 1 + 1,
          heap := h'.push { cls := .type "generator", data := .fields #[.int s₄.gens.size 0, .str "<genexpr>" (s₄.toks + 1), .str (X.env.qual ++ "<genexpr>") (s₄.toks + 1 + 1)] } }) X.xe { s2 with heap := h3, toks := tk } := by
    intro code h3 tk ps' hx hP3 hmore ht3
    obtain ⟨bm, ob, e1, e2, e3, e4, e5, e6, e7, e8⟩ := TB.bm
    have keep3 : ∀ b u, b ≠ P → s2.heap.get? b = some u → h3.get? b = some u := fun b u hb e => hx b u hb e
    refine wpAny_builtinsFor (m := X.mg) (by rw [I2.ok.glob]; exact (I2.mod.glob.keeps I2.bk).extBut hx TB.gP) e1 e2 (keep3 _ _ e4 (I2.bk _ _ e5)) e6 e7 e8 ?_
    obtain ⟨more, em⟩ := hmore
    have I3 : Inv X pins σ (upd H2 P (.tbl (ps0 ++ more))) { s2 with heap := h3, toks := tk } := GxR.inv_tab (g' := s2.gens) (d' := s2.drawn) I2 hP keep3 (by rw [← em]; exact hP3) I2.bare
    obtain ⟨W, ⟨m, w0⟩, turn⟩ := q (upd H2 P (.tbl (ps0 ++ more))) ⟨⟨ps0 ++ more, upd_same, by rw [← em]; exact ht3⟩, fun b hb => upd_ne hb⟩
    generalize hs3 : ({ s2 with heap := h3, toks := tk } : Shared) = s3 at I3 ⊢
    have h3s : s3.heap = h3 := by rw [← hs3]
    generalize hH3 : upd H2 P (.tbl (ps0 ++ more)) = H3 at I3 w0
    have nP : ∀ b ∈ fp, b ≠ P := fun b hb z => by
      have := (f2 b hb).1
      rw [z, hP] at this
      cases this
    have f3 : ∀ b ∈ fp, FpOk X pins H3 b := fun b hb => ⟨by rw [← hH3, upd_ne (nP b hb)]; exact (f2 b hb).1, (f2 b hb).2⟩
    have st3 : tn 0 s3.heap := T.keep _ _ _ st2 fun b hb o e => by rw [h3s]; exact keep3 b o (nP b hb) e
    have sz : ∀ b ∈ fp, b < s3.heap.objs.size := fun b hb => by
      obtain ⟨o, e, _⟩ := T.obj _ _ st3 b hb
      exact Heap.lt_size e
    intro h' hn' hs'
    have hsz : h'.objs.size = s3.heap.objs.size + 1 := by rw [hs'.1, Heap.size_push]
    have keep' : ∀ b o, s3.heap.get? b = some o → h'.get? b = some o := fun b o e => hs'.extBut b o (Nat.ne_of_lt (Heap.lt_size e)) (Heap.get?_push_of_some _ e)
    generalize hgo : ({ cls := .type "generator", data := .fields #[.int s3.gens.size 0, .str "<genexpr>" (s3.toks + 1), .str (X.env.qual ++ "<genexpr>") (s3.toks + 1 + 1)] } : Obj) = go
    have gen_ : ∀ h : Heap, h.get? h'.objs.size = some go → h.IsGen h'.objs.size s3.gens.size := fun h e => ⟨go, _, _, e, by rw [← hgo], by rw [← hgo], by rw [← hgo]⟩
    have hpush : (h'.push go).get? h'.objs.size = some go := Heap.get?_push_size _ (by rw [← hgo]; rfl)
    have hcell : ∀ v, go.data ≠ .cell v := fun v z => by rw [← hgo] at z; cases z
    have keep5 : ∀ b o, s3.heap.get? b = some o → (h'.push go).get? b = some o := fun b o e => Heap.get?_push_of_some _ (keep' b o e)
    refine ⟨h'.objs.size, s3.gens.size, m + 1, _, rfl, gen_ _ hpush, I3.nolimit.keeps keep5, I3.bare.push rfl, Array.getElem?_push_size .., fun A s'' hrA hfr eh eo eb => ⟨rfl, ?_⟩⟩
    have I4 := gen_start (A := A) (own := own) (code := code) (it := .ref it) (tk := s3.toks) (gens' := s''.gens) (go := go) I3 S hN (fun b hb => ⟨f3 b hb, sz b hb⟩) hrA.hd hfr hn' keep' hsz eb hcell hpush
    have I5 : Inv (gcx X A s3 H3 (gnEnv X scope s3.heap.objs.size code) fp [(h'.objs.size, go)]) [] (L2.wipe σ (own.map (·.2))) H3 s'' := Inv.alike I4 eh eo eb
    have st5 : tn 0 s''.heap := T.keep _ _ _ st3 fun b hb o e => by rw [eh]; exact keep5 b o e
    have ha : h'.objs.size ∉ fp := fun hm => Nat.lt_irrefl _ (Nat.lt_of_lt_of_le (sz _ hm) (by rw [hsz]; exact Nat.le_succ _))
    have rm := hrA.deeper (gnEnv X scope s3.heap.objs.size code)
    have loop := gen_loop2 (pos := gpos) (iter := iter) hc S.co I3 f3 gen_ T (ps.g A s3 H3 s3.heap.objs.size code fp [(h'.objs.size, go)] rm) (ps.t A s3 H3 s3.heap.objs.size code fp [(h'.objs.size, go)] rm) (ps.e A s3 H3 s3.heap.objs.size code fp [(h'.objs.size, go)] rm) (ps.i1 A s3 H3 s3.heap.objs.size code fp [(h'.objs.size, go)] rm) (ps.g1 A s3 H3 s3.heap.objs.size code fp [(h'.objs.size, go)] rm) (ps.t1 A s3 H3 s3.heap.objs.size code fp [(h'.objs.size, go)] rm) hs1 hv turn ha m (m + 1) 0 s'' s'' H3 (Nat.lt_succ_self _) w0 I5 st5 (fun b hb => (f3 b hb).1)
    show Seg _ A _ _ _ s'' _ ((compStart (ge2 elt tg iter ifs tg1 iter1 ifs1 scope gpos) 0 (.ref it) .none (gnEnv X scope s3.heap.objs.size code)).onRaise (leaving (gnEnv X scope s3.heap.objs.size code))) [] s''
    unfold compStart
    rw [Sem.onRaise_eq_wrap]
    show Seg _ A _ _ _ s'' _ ((ask >>= _).wrap _ _ _ _) [] s''
    refine seg_bind_wrap (wpAny_askSetting ?_)
    split
    · exact seg_again rfl loop
    · first
        | exact seg_bind_wrap (wpAny_rule (seg_bind_wrap (wpAny_standAt (seg_bind_wrap (T.self _ 0 s'' _ _ st5 (seg_again rfl loop))))))
        | (refine seg_bind_wrap (wpAny_rule ?_); show Seg _ A _ _ _ s'' _ ((standAt iter.pos >>= _).wrap _ _ _ _) [] s''; exact seg_bind_wrap (wpAny_standAt (seg_bind_wrap (T.self _ 0 s'' _ _ st5 (seg_again rfl loop)))))
  cases hf : codeAmong gpos ps0.toList with
  | none =>
    refine wpAny_genexprCodeX hcode (cd.code hPs ht) (cd.tab hPs) hf fun c' h' tk hx hge hlt hco' _ htab' _ => ?_
    obtain ⟨o1, vs, f1, tf, fl, tg, inF, tx, tt, op, _, _, _, _, _, _, _, _, _, htr, _⟩ := hco'
    exact cont _ h' tk _ hx htab'.2 ⟨_, rfl⟩ htr
  | some cv =>
    refine wpAny_genexprCode_hit hcode (cd.code hPs ht) hf ?_
    exact cont cv s2.heap s2.toks ps0 (Heap.ExtBut.refl _ _) hPs ⟨#[], by simp⟩ ht
theorem pe_all2 {c P : Addr} {k : Nat} {wi : TI} {g : L2.TG} {tt : TT} {te : TE} {elt tg iter tg1 iter1 : Expr} {ifs ifs1 : List Expr} {wi1 : TI} {g1 : L2.TG} {tt1 : TT} {vs1 : List Nat} {scope : Scope} {own : List (Str × Nat)} {gpos p pos : Pos}
    (hr : Room (k + 3) X.A) (hc : X.calm = true) (hN : X.N.Nodup) (hg : Gl X "all") (hm : X.mg "all" = none) (TB : GxR.TabB X.base X.mg c P) (hcode : X.env.code = .ref c) (S : GnS X.N X.env.scope scope own) (hi : PI X tg iter wi) (ps : GenPs2 X k scope tg elt ifs tg1 iter1 ifs1 g tt wi1 g1 tt1 te)
    (hs : ∀ v, genFold iter X.env v = pure v) (hs1 : ∀ env x, foldedSetIterable iter1 env x = pure x) (hv : ∀ i ∈ vs1, i ∈ own.map (·.2))
    (he : starEach [ge2 elt tg iter ifs tg1 iter1 ifs1 scope gpos] X.env = (false, eval (ge2 elt tg iter ifs tg1 iter1 ifs1 scope gpos) X.env) :: starEach [] X.env := by rfl) :
    PE X (.Call (.Name "all" p) [ge2 elt tg iter ifs tg1 iter1 ifs1 scope gpos] [] pos) (tGen2 false P wi g tt wi1 g1 tt1 te (own.map (·.2)) vs1) := by
  refine ⟨fun pins s σ H Q I h => ?_⟩
  refine wpAny_Call_Name_kw (ld_blt I hg hm (by rfl : bootBuiltins "all" = some (.builtin "all")) ?_)
  refine PyProof.Rows.callWith_builtin1 ?_ he (by rfl)
  rw [he]
  show wpAny _ _ (spliced ((false, eval (ge2 elt tg iter ifs tg1 iter1 ifs1 scope gpos) X.env) :: backTo pos (starEach [] X.env))) _ _ s
  refine Calls.spliced_cons (thn (gen_make2 hc hN hr.depth TB hcode S hi ps hs hs1 hv I h) fun u s1 hG => ?_)
  obtain ⟨a, gn, n, gs, rfl, hgen, hl, hb, hgs, go⟩ := hG
  refine Calls.spliced_nil ?_
  refine call_function_tree F.kind_all F.plain_all F.entry_all (F.args_all1 _) ?_
  unfold Builtin.«all»
  refine wpAny_bind (m := oneArg "all" _) (wpAny_pure ?_)
  refine wpAny_bind (wpAny_pyIter_gen hgen ?_)
  refine wpAny_pure ⟨plainId_quiet F.plain_all_loop _, all_loop (A := X.A) (X := X) (pins := pins) (σ := σ) (Q := Q) hr.hd hr.depth (fun k s' hh => ?_) n s1 hgen hl hb ⟨gs, hgs, fun s'' e1 e2 e3 => go _ s'' ?_ I.ok.frames e1 e2 e3⟩⟩
  · obtain ⟨H', I', q'⟩ := hh
    exact ⟨.bl k, H', I', rfl, q'⟩
  · exact (hr.in1).in1
theorem pe_any2 {c P : Addr} {k : Nat} {wi : TI} {g : L2.TG} {tt : TT} {te : TE} {elt tg iter tg1 iter1 : Expr} {ifs ifs1 : List Expr} {wi1 : TI} {g1 : L2.TG} {tt1 : TT} {vs1 : List Nat} {scope : Scope} {own : List (Str × Nat)} {gpos p pos : Pos}
    (hr : Room (k + 3) X.A) (hc : X.calm = true) (hN : X.N.Nodup) (hg : Gl X "any") (hm : X.mg "any" = none) (TB : GxR.TabB X.base X.mg c P) (hcode : X.env.code = .ref c) (S : GnS X.N X.env.scope scope own) (hi : PI X tg iter wi) (ps : GenPs2 X k scope tg elt ifs tg1 iter1 ifs1 g tt wi1 g1 tt1 te)
    (hs : ∀ v, genFold iter X.env v = pure v) (hs1 : ∀ env x, foldedSetIterable iter1 env x = pure x) (hv : ∀ i ∈ vs1, i ∈ own.map (·.2))
    (he : starEach [ge2 elt tg iter ifs tg1 iter1 ifs1 scope gpos] X.env = (false, eval (ge2 elt tg iter ifs tg1 iter1 ifs1 scope gpos) X.env) :: starEach [] X.env := by rfl) :
    PE X (.Call (.Name "any" p) [ge2 elt tg iter ifs tg1 iter1 ifs1 scope gpos] [] pos) (tGen2 true P wi g tt wi1 g1 tt1 te (own.map (·.2)) vs1) := by
  refine ⟨fun pins s σ H Q I h => ?_⟩
  refine wpAny_Call_Name_kw (ld_blt I hg hm boot_any ?_)
  refine PyProof.Rows.callWith_builtin1 ?_ he (by rfl)
  rw [he]
  show wpAny _ _ (spliced ((false, eval (ge2 elt tg iter ifs tg1 iter1 ifs1 scope gpos) X.env) :: backTo pos (starEach [] X.env))) _ _ s
  refine Calls.spliced_cons (thn (gen_make2 hc hN hr.depth TB hcode S hi ps hs hs1 hv I h) fun u s1 hG => ?_)
  obtain ⟨a, gn, n, gs, rfl, hgen, hl, hb, hgs, go⟩ := hG
  refine Calls.spliced_nil ?_
  refine call_function_tree F.kind_any F.plain_any F.entry_any (F.args_any1 _) ?_
  unfold Builtin.«any»
  refine wpAny_bind (m := oneArg "any" _) (wpAny_pure ?_)
  refine wpAny_bind (wpAny_pyIter_gen hgen ?_)
  refine wpAny_pure ⟨plainId_quiet F.plain_any_loop _, any_loop (A := X.A) (X := X) (pins := pins) (σ := σ) (Q := Q) hr.hd hr.depth (fun k s' hh => ?_) n s1 hgen hl hb ⟨gs, hgs, fun s'' e1 e2 e3 => go _ s'' ?_ I.ok.frames e1 e2 e3⟩⟩
  · obtain ⟨H', I', q'⟩ := hh
    exact ⟨.bl k, H', I', rfl, q'⟩
  · exact (hr.in1).in1
end


/-! ### as plain values -/
def genI (stop : Bool) (own : List Nat) (T : Tg) (tt : M Bool) (elt : M PyData) : List PyData → M Bool
  | [] => .ret false
  | d :: ds => fun r => if noIo r own then (match T d (wipeR r own) with
    | some r1 => match tt r1 with
      | .ok true r2 => match elt r2 with
        | .ok (.bool k) r3 => if k = stop then .ok true r3 else genI stop own T tt elt ds r3
        | _ => .st
      | .ok false r2 => genI stop own T tt elt ds r2
      | _ => .st
    | none => .st) else .st
def genF2 (stop : Bool) (own own1 : List Nat) (T : Tg) (tt : M Bool) (it1 : M (List PyData)) (T1 : Tg) (tt1 : M Bool) (elt : M PyData) : List PyData → M PyData
  | [] => .ret (.bool (!stop))
  | d :: ds => fun r => if noIo r own then (match T d (wipeR r own) with
    | some r1 => match tt r1 with
      | .ok true r2 => match it1 r2 with
        | .ok es r3 => match genI stop own1 T1 tt1 elt es r3 with
          | .ok true r4 => .ok (.bool stop) r4
          | .ok false r4 => genF2 stop own own1 T tt it1 T1 tt1 elt ds r4
          | _ => .st
        | _ => .st
      | .ok false r2 => genF2 stop own own1 T tt it1 T1 tt1 elt ds r2
      | _ => .st
    | none => .st) else .st
/-- how many turns it takes -/
def genC2 (stop : Bool) (own own1 : List Nat) (T : Tg) (tt : M Bool) (it1 : M (List PyData)) (T1 : Tg) (tt1 : M Bool) (elt : M PyData) : List PyData → List Sl → Nat
  | [], _ => 0
  | d :: ds, r => 1 + (match T d (wipeR r own) with
    | some r1 => match tt r1 with
      | .ok true r2 => match it1 r2 with
        | .ok es r3 => es.length + (match genI stop own1 T1 tt1 elt es r3 with
          | .ok false r4 => genC2 stop own own1 T tt it1 T1 tt1 elt ds r4
          | _ => 0)
        | _ => 0
      | .ok false r2 => genC2 stop own own1 T tt it1 T1 tt1 elt ds r2
      | _ => 0
    | none => 0)
def genB2 (stop : Bool) (own own1 : List Nat) (T : Tg) (tt : M Bool) (it1 : M (List PyData)) (T1 : Tg) (tt1 : M Bool) (elt : M PyData) (ds : List PyData) : M PyData := fun r => match genF2 stop own own1 T tt it1 T1 tt1 elt ds r with
  | .ok d r2 => if noIo r2 own then .ok d (unwipe own r r2) else .st
  | _ => .st
def dGen2 (stop : Bool) (own own1 : List Nat) (it : M (List PyData)) (T : Tg) (tt : M Bool) (it1 : M (List PyData)) (T1 : Tg) (tt1 : M Bool) (elt : M PyData) : M PyData := it.bind (genB2 stop own own1 T tt it1 T1 tt1 elt)
section
variable {K : PySem.W.Frag} {TG : TGx} {W : WX} {it it1 : M (List PyData)} {T T1 : Tg} {ns ns1 : List Nat} {tt tt1 : M Bool} {elt : M PyData} {own own1 : List Nat} {stop : Bool}
/-- what goes on behind the inner clause -/
def innK (kp : Res PyData → Prop) (stop : Bool) (f : M PyData) : Res Bool → Prop := fun x => ∃ b r2, x = .ok b r2 ∧ kp (if b = true then .ok (.bool stop) r2 else f r2)
def innC (c : List Sl → Nat) : Res Bool → Nat
  | .ok false r => c r
  | _ => 0
theorem genI_cons {d : PyData} {ds : List PyData} {r : List Sl} : genI stop own T tt elt (d :: ds) r = if noIo r own then (match T d (wipeR r own) with
    | some r1 => match tt r1 with
      | .ok true r2 => match elt r2 with
        | .ok (.bool k) r3 => if k = stop then .ok true r3 else genI stop own T tt elt ds r3
        | _ => .st
      | .ok false r2 => genI stop own T tt elt ds r2
      | _ => .st
    | none => .st) else .st := rfl
theorem inn_turn {B : List (Nat × Addr)} {F G0 G4 : Hp} {es : List PyData} {s2 : L2.St} {J : It} {Q : VK} {Nx : Nat → Hp → Prop} {H4 : Hp} {r3 : List Sl} {kp : Res PyData → Prop} {f : M PyData} {c : List Sl → Nat}
    (hst : ¬ kp .st) (hns1 : ∀ i ∈ ns1, i ∈ own1) (i4 : SR K TG B F G0 G4 H4 r3 s2) (ok : ItOk K G4 es J) (hk1 : innK kp stop f (genI stop own1 T1 tt1 elt es r3))
    (hN : ∀ G5 H5 r5 s5, Same G4 G5 → Like own1 s2 s5 → SR K TG B F G0 G5 H5 r5 s5 → kp (f r5) → Nx (c r5) H5)
    (hQ : ∀ G5 H5 r5 s5, Same G4 G5 → Like own1 s2 s5 → SR K TG B F G0 G5 H5 r5 s5 → kp (.ok (.bool stop) r5) → Q (.bl stop) H5) :
    ∃ W1 : Nat → Nat → Hp → Prop, W1 0 (es.length + innC c (genI stop own1 T1 tt1 elt es r3)) H4 ∧ TurnsI stop J (rdG K TG ns1 T1) (rd K TG W0 RB tt1) (rd K TG W0 (RE K) elt) own1 s2 Q Nx W1 := by
  have hst1 : ¬ innK kp stop f .st := fun ⟨_, _, e, _⟩ => by cases e
  refine ⟨fun j m H5 => j ≤ es.length ∧ ∃ G5 r5 s5, m = es.length - j + innC c (genI stop own1 T1 tt1 elt (es.drop j) r5) ∧ Same G4 G5 ∧ Like own1 s2 s5 ∧ SR K TG B F G0 G5 H5 r5 s5 ∧ innK kp stop f (genI stop own1 T1 tt1 elt (es.drop j) r5),
    ⟨Nat.zero_le _, G4, r3, s2, rfl, .refl _, .refl _ _, i4, hk1⟩, ?_⟩
  rintro j m H5 ⟨hj, G5, r5, s5, rfl, e5, l5, i5, hk5⟩
  by_cases hlt : j < es.length
  · refine .inr ⟨ok.go j H5 (e5.trans i5.gh) hlt, fun H6 => ∃ G6 r6 s6, innC c (genI stop own1 T1 tt1 elt (es.drop j) r5) = innC c (genI stop own1 T1 tt1 elt (es.drop (j + 1)) r6) ∧ Same G4 G6 ∧ Like own1 s2 s6 ∧ SR K TG B F G0 G6 H6 r6 s6 ∧ innK kp stop f (genI stop own1 T1 tt1 elt (es.drop (j + 1)) r6),
      fun H6 ⟨G6, r6, s6, em, h6⟩ => ⟨es.length - (j + 1) + innC c (genI stop own1 T1 tt1 elt (es.drop j) r5), by omega, hlt, G6, r6, s6, by rw [em], h6⟩, fun x H6 y => ?_⟩
    obtain ⟨d, G6, hd, gr, rv⟩ := ok.yld j H5 x H6 G5 e5 i5.gh hlt y
    have hdrop : es.drop j = d :: es.drop (j + 1) := by
      rw [List.drop_eq_getElem_cons hlt]
      rw [List.getElem?_eq_getElem hlt] at hd
      rw [Option.some.inj hd]
    rw [hdrop] at hk5 ⊢
    rw [← wipe_set l5]
    have w5 : L2.wipe s5 own1 = L2.wipe s2 own1 := wipe_set l5
    rw [genI_cons] at hk5 ⊢
    split at hk5
    · rename_i hio
      rw [if_pos hio]
      cases ht : T1 d (wipeR r5 own1) with
      | none => rw [ht] at hk5; exact absurd hk5 hst1
      | some r6 =>
        rw [ht] at hk5
        refine ⟨B, _, G0, G6, _, d, r6, (i5.wipe hio).grow gr, rv, ht, fun G7 H7 s7 e7 i7 l7 => ?_⟩
        have l7 : Like own1 (L2.wipe s5 own1) s7 := l7.sub hns1
        have lk : Like own1 s5 s7 := ⟨l7.1.trans wipe_self.1, fun j n => (l7.2 j n).trans (wipe_self.2 j n)⟩
        have ls : Like own1 s2 s7 := ⟨lk.1.trans l5.1, fun j n => (lk.2 j n).trans (l5.2 j n)⟩
        have e47 : Same G4 G7 := e5.trans (gr.g.trans e7)
        refine ⟨wipe_set lk, B, _, G0, G7, r6, i7, ?_⟩
        simp only at hk5 ⊢
        cases hb : tt1 r6 with
        | st => rw [hb] at hk5; exact absurd hk5 hst1
        | ex _ _ => rw [hb] at hk5; exact absurd hk5 hst1
        | ok b r7 =>
          rw [hb] at hk5
          intro G8 H8 b' e8 i8 hbb
          have hbb : b = b' := hbb
          subst hbb
          cases b with
          | false => exact ⟨G8, r7, s7, by rfl, e47.trans e8, ls, i8, hk5⟩
          | true =>
            simp only at hk5 ⊢
            refine ⟨B, _, G0, G8, r7, i8, ?_⟩
            cases he : elt r7 with
            | st => rw [he] at hk5; exact absurd hk5 hst1
            | ex _ _ => rw [he] at hk5; exact absurd hk5 hst1
            | ok y r8 =>
              rw [he] at hk5
              intro G9 H9 v e9 i9 hv
              have e49 : Same G4 G9 := (e47.trans e8).trans e9
              cases y with
              | bool b =>
                refine ⟨b, hv, ?_⟩
                simp only at hk5 ⊢
                split
                · rename_i hbs
                  rw [if_pos hbs] at hk5
                  obtain ⟨b2, r9, e, z⟩ := hk5
                  cases e
                  exact hQ G9 H9 r8 s7 e49 ls i9 (by simpa using z)
                · rename_i hbs
                  rw [if_neg hbs] at hk5
                  exact ⟨G9, r8, s7, by first | rfl | rw [if_neg hbs], e49, ls, i9, hk5⟩
              | none => exact absurd hk5 hst1
              | int _ => exact absurd hk5 hst1
              | str _ => exact absurd hk5 hst1
              | list _ => exact absurd hk5 hst1
              | tuple _ => exact absurd hk5 hst1
              | dict _ => exact absurd hk5 hst1
    · exact absurd hk5 hst1
  · have hl : j = es.length := by omega
    subst hl
    rw [List.drop_length] at hk5 ⊢
    obtain ⟨b, r6, e, z⟩ := hk5
    cases e
    refine .inl ⟨ok.stop H5 (e5.trans i5.gh), ?_⟩
    have q := hN G5 H5 r5 s5 e5 l5 i5 (by simpa using z)
    have em : es.length - es.length + innC c (genI stop own1 T1 tt1 elt [] r5) = c r5 := by
      rw [Nat.sub_self, Nat.zero_add]
      rfl
    rw [em]
    exact q
end
section
variable {K : PySem.W.Frag} {TG : TGx} {W : WX} {it it1 : M (List PyData)} {T T1 : Tg} {ns ns1 : List Nat} {tt tt1 : M Bool} {elt : M PyData} {own own1 : List Nat} {stop : Bool}
theorem genF2_cons {d : PyData} {ds : List PyData} {r : List Sl} : genF2 stop own own1 T tt it1 T1 tt1 elt (d :: ds) r = if noIo r own then (match T d (wipeR r own) with
    | some r1 => match tt r1 with
      | .ok true r2 => match it1 r2 with
        | .ok es r3 => match genI stop own1 T1 tt1 elt es r3 with
          | .ok true r4 => .ok (.bool stop) r4
          | .ok false r4 => genF2 stop own own1 T tt it1 T1 tt1 elt ds r4
          | _ => .st
        | _ => .st
      | .ok false r2 => genF2 stop own own1 T tt it1 T1 tt1 elt ds r2
      | _ => .st
    | none => .st) else .st := rfl
theorem genC2_cons {d : PyData} {ds : List PyData} {r : List Sl} : genC2 stop own own1 T tt it1 T1 tt1 elt (d :: ds) r = 1 + (match T d (wipeR r own) with
    | some r1 => match tt r1 with
      | .ok true r2 => match it1 r2 with
        | .ok es r3 => es.length + (match genI stop own1 T1 tt1 elt es r3 with
          | .ok false r4 => genC2 stop own own1 T tt it1 T1 tt1 elt ds r4
          | _ => 0)
        | _ => 0
      | .ok false r2 => genC2 stop own own1 T tt it1 T1 tt1 elt ds r2
      | _ => 0
    | none => 0) := rfl
theorem rd_gen2 {s : L2.St} {H : Hp} {Q : VK} {P : Addr} (hP : (⟨P, none⟩ : TbK) ∈ TG ∧ ∀ z ∈ TG, z.P = P → z.q = none) (hns : ∀ i ∈ ns, i ∈ own) (hns1 : ∀ i ∈ ns1, i ∈ own1) (hsub : ∀ i ∈ own1, i ∈ own) (h : rd K TG W (RE K) (dGen2 stop own own1 it T tt it1 T1 tt1 elt) s H Q) :
    tGen2 stop P (rdI K TG W it) (rdG K TG ns T) (rd K TG W0 RB tt) (rdI K TG W0 it1) (rdG K TG ns1 T1) (rd K TG W0 RB tt1) (rd K TG W0 (RE K) elt) own own1 s H Q := by
  obtain ⟨B, F, G0, G, z, i, p⟩ := h
  refine ⟨B, F, G0, G, z, i, ?_⟩
  unfold dGen2 M.bind at p
  cases hr : it z with
  | st => rw [hr] at p; exact p
  | ex x r1 => rw [hr] at p; exact p
  | ok ds r1 =>
    rw [hr] at p
    have p : post K TG W (RE K) B F G0 G s Q (genB2 stop own own1 T tt it1 T1 tt1 elt ds r1) := p
    unfold genB2 at p
    intro G1 H1 J e1 i1 ok
    refine ⟨(i1.tb _ hP.1).g, fun H2 tH => ?_⟩
    have i2 := i1.tab hP tH
    let k : Res PyData → Prop := fun x => ∃ out r2, x = .ok out r2 ∧ noIo r2 own = true ∧ ∀ G' H' v, Same G G' → SR K TG B F G0 G' H' (unwipe own r1 r2) s → Rv K G' out v → Q v H'
    have hk : k (genF2 stop own own1 T tt it1 T1 tt1 elt ds r1) := by
      cases hq : genF2 stop own own1 T tt it1 T1 tt1 elt ds r1 with
      | ok out r2 =>
        rw [hq] at p
        have p : post K TG W (RE K) B F G0 G s Q (if noIo r2 own then .ok out (unwipe own r1 r2) else .st) := p
        split at p
        · rename_i hio; exact ⟨out, r2, rfl, hio, p⟩
        · exact p.elim
      | ex x r2 => rw [hq] at p; exact p.elim
      | st => rw [hq] at p; exact p.elim
    have fin : ∀ {G' H' r2 s2 b}, Same G1 G' → Like own s s2 → SR K TG B F G0 G' H' r2 s2 → k (.ok (.bool b) r2) → Q (.bl b) H' := fun {G' H' r2 s2 b} e l i' ⟨out, r3, ho, hio, hp⟩ => by
      cases ho
      refine hp G' H' (.bl b) (e1.trans e) (i'.unwipe l hio fun v d q => ?_) rfl
      obtain ⟨u, h1, h2⟩ := i1.vals v d q
      exact ⟨u, h1, Rv.mono e _ _ h2⟩
    have hst : ¬ k .st := fun ⟨_, _, e, _⟩ => by cases e
    refine ⟨fun i m H' => i ≤ ds.length ∧ ∃ G2 r2 s2, m = genC2 stop own own1 T tt it1 T1 tt1 elt (ds.drop i) r2 ∧ Same G1 G2 ∧ Like own s s2 ∧ SR K TG B F G0 G2 H' r2 s2 ∧ k (genF2 stop own own1 T tt it1 T1 tt1 elt (ds.drop i) r2), ⟨_, Nat.zero_le _, G1, r1, s, rfl, .refl _, .refl _ _, i2, hk⟩, ?_⟩
    rintro i m H' ⟨hi, G2, r2, s2, rfl, e2, l2, i2, hk⟩
    have w2 : L2.wipe s2 own = L2.wipe s own := wipe_set l2
    by_cases hlt : i < ds.length
    · refine .inr ⟨ok.go i H' (e2.trans i2.gh) hlt, fun m H3 => ∃ G2 r2 s2, m = genC2 stop own own1 T tt it1 T1 tt1 elt (ds.drop (i + 1)) r2 ∧ Same G1 G2 ∧ Like own s s2 ∧ SR K TG B F G0 G2 H3 r2 s2 ∧ k (genF2 stop own own1 T tt it1 T1 tt1 elt (ds.drop (i + 1)) r2), fun m H3 h3 => ⟨m, Nat.le_refl _, hlt, h3⟩, fun x H3 y => ?_⟩
      obtain ⟨d, G3, hd, gr, rv⟩ := ok.yld i H' x H3 G2 e2 i2.gh hlt y
      have hdrop : ds.drop i = d :: ds.drop (i + 1) := by
        rw [List.drop_eq_getElem_cons hlt]
        rw [List.getElem?_eq_getElem hlt] at hd
        rw [Option.some.inj hd]
      rw [hdrop] at hk ⊢
      rw [genF2_cons] at hk
      rw [genC2_cons]
      rw [← w2]
      split at hk
      · rename_i hio
        cases ht : T d (wipeR r2 own) with
        | none => rw [ht] at hk; exact absurd hk hst
        | some r3 =>
          rw [ht] at hk
          refine ⟨B, _, G0, G3, _, d, r3, (i2.wipe hio).grow gr, rv, ht, fun G4 H4 s4 e4 i4 l4 => ?_⟩
          have l4 : Like own (L2.wipe s2 own) s4 := l4.sub hns
          have lk : Like own s2 s4 := ⟨l4.1.trans wipe_self.1, fun j n => (l4.2 j n).trans (wipe_self.2 j n)⟩
          have ls : Like own s s4 := ⟨lk.1.trans l2.1, fun j n => (lk.2 j n).trans (l2.2 j n)⟩
          refine ⟨wipe_set lk, B, _, G0, G4, r3, i4, ?_⟩
          have e14 : Same G1 G4 := e2.trans (gr.g.trans e4)
          simp only at hk ⊢
          cases hb : tt r3 with
          | st => rw [hb] at hk; exact absurd hk hst
          | ex _ _ => rw [hb] at hk; exact absurd hk hst
          | ok b r5 =>
            rw [hb] at hk
            intro G5 H5 b' e5 i5 hbb
            have hbb : b = b' := hbb
            subst hbb
            cases b with
            | false => exact ⟨genC2 stop own own1 T tt it1 T1 tt1 elt (ds.drop (i + 1)) r5, by simp only; omega, G5, r5, s4, rfl, e14.trans e5, ls, i5, hk⟩
            | true =>
              simp only at hk ⊢
              refine ⟨B, _, G0, G5, r5, i5, ?_⟩
              cases he : it1 r5 with
              | st => rw [he] at hk; exact absurd hk hst
              | ex _ _ => rw [he] at hk; exact absurd hk hst
              | ok es r6 =>
                rw [he] at hk
                simp only at hk ⊢
                intro G6 H6 J1 e6 i6 ok1
                have e16 : Same G1 G6 := (e14.trans e5).trans e6
                have hk1 : innK k stop (genF2 stop own own1 T tt it1 T1 tt1 elt (ds.drop (i + 1))) (genI stop own1 T1 tt1 elt es r6) := by
                  cases hq : genI stop own1 T1 tt1 elt es r6 with
                  | ok b r7 => rw [hq] at hk; cases b with
                    | true => exact ⟨true, r7, rfl, hk⟩
                    | false => exact ⟨false, r7, rfl, hk⟩
                  | ex x r2 => rw [hq] at hk; exact absurd hk hst
                  | st => rw [hq] at hk; exact absurd hk hst
                obtain ⟨W1, w0, tn⟩ := inn_turn (c := genC2 stop own own1 T tt it1 T1 tt1 elt (ds.drop (i + 1))) (Q := Q) hst hns1 i6 ok1 hk1
                  (Nx := fun m H3 => ∃ G2 r2 s2, m = genC2 stop own own1 T tt it1 T1 tt1 elt (ds.drop (i + 1)) r2 ∧ Same G1 G2 ∧ Like own s s2 ∧ SR K TG B F G0 G2 H3 r2 s2 ∧ k (genF2 stop own own1 T tt it1 T1 tt1 elt (ds.drop (i + 1)) r2))
                  (fun G7 H7 r7 s7 e7 l7 i7 hk7 => ⟨G7, r7, s7, rfl, e16.trans e7, ⟨(l7.sub hsub).1.trans ls.1, fun j n => ((l7.sub hsub).2 j n).trans (ls.2 j n)⟩, i7, hk7⟩)
                  (fun G7 H7 r7 s7 e7 l7 i7 hk7 => fin (e16.trans e7) ⟨(l7.sub hsub).1.trans ls.1, fun j n => ((l7.sub hsub).2 j n).trans (ls.2 j n)⟩ i7 hk7)
                refine ⟨W1, ⟨_, ?_, w0⟩, tn⟩
                have em : innC (genC2 stop own own1 T tt it1 T1 tt1 elt (ds.drop (i + 1))) (genI stop own1 T1 tt1 elt es r6) = (match genI stop own1 T1 tt1 elt es r6 with
                  | .ok false r4 => genC2 stop own own1 T tt it1 T1 tt1 elt (ds.drop (i + 1)) r4
                  | _ => 0) := by
                  unfold innC
                  rfl
                rw [em]
                omega
      · exact absurd hk hst
    · have hl : i = ds.length := by omega
      subst hl
      rw [List.drop_length] at hk
      exact .inl ⟨ok.stop H' (e2.trans i2.gh), fin e2 l2 i2 hk⟩
end
section
variable {X : Cx} {TG : TGx} {W : WX} {elt tg iter tg1 iter1 : Expr} {ifs ifs1 : List Expr} {scope : Scope} {own : List (Str × Nat)} {ow1 ns ns1 : List Nat} {it it1 : M (List PyData)} {T T1 : Tg} {t t1 : M Bool} {d : M PyData} {c P : Addr} {k : Nat} {gpos p pos : Pos}
structure GenDs2 (X : Cx) (TG : TGx) (k : Nat) (scope : Scope) (tg elt : Expr) (ifs : List Expr) (tg1 iter1 : Expr) (ifs1 : List Expr) (ns : List Nat) (T : Tg) (t : M Bool) (it1 : M (List PyData)) (ns1 : List Nat) (T1 : Tg) (t1 : M Bool) (d : M PyData) : Prop where
  g : ∀ (A : Around) (s : Shared) (H : Hp) (C : Addr) (code : Value) (fp : List Addr) (pn : List (Addr × Obj)), Room k (A.deeper (gnEnv X scope C code)) → DG (gcx X A s H (gnEnv X scope C code) fp pn) TG tg ns T
  t : ∀ (A : Around) (s : Shared) (H : Hp) (C : Addr) (code : Value) (fp : List Addr) (pn : List (Addr × Obj)), Room k (A.deeper (gnEnv X scope C code)) → DTs (gcx X A s H (gnEnv X scope C code) fp pn) TG W0 ifs t
  i1 : ∀ (A : Around) (s : Shared) (H : Hp) (C : Addr) (code : Value) (fp : List Addr) (pn : List (Addr × Obj)), Room k (A.deeper (gnEnv X scope C code)) → DI (gcx X A s H (gnEnv X scope C code) fp pn) TG W0 tg1 iter1 it1
  g1 : ∀ (A : Around) (s : Shared) (H : Hp) (C : Addr) (code : Value) (fp : List Addr) (pn : List (Addr × Obj)), Room k (A.deeper (gnEnv X scope C code)) → DG (gcx X A s H (gnEnv X scope C code) fp pn) TG tg1 ns1 T1
  t1 : ∀ (A : Around) (s : Shared) (H : Hp) (C : Addr) (code : Value) (fp : List Addr) (pn : List (Addr × Obj)), Room k (A.deeper (gnEnv X scope C code)) → DTs (gcx X A s H (gnEnv X scope C code) fp pn) TG W0 ifs1 t1
  e : ∀ (A : Around) (s : Shared) (H : Hp) (C : Addr) (code : Value) (fp : List Addr) (pn : List (Addr × Obj)), Room k (A.deeper (gnEnv X scope C code)) → DE (gcx X A s H (gnEnv X scope C code) fp pn) TG W0 elt d
theorem GenDs2.ps (h : GenDs2 X TG k scope tg elt ifs tg1 iter1 ifs1 ns T t it1 ns1 T1 t1 d) : GenPs2 X k scope tg elt ifs tg1 iter1 ifs1 (rdG X.K TG ns T) (rd X.K TG W0 RB t) (rdI X.K TG W0 it1) (rdG X.K TG ns1 T1) (rd X.K TG W0 RB t1) (rd X.K TG W0 (RE X.K) d) := ⟨⟨h.g, h.t, h.e⟩, h.i1, h.g1, h.t1⟩
theorem de_all2 (hr : Room (k + 3) X.A) (hc : X.calm = true) (hN : X.N.Nodup) (hg : Gl X "all") (hm : X.mg "all" = none) (TB : GxR.TabB X.base X.mg c P) (hP : (⟨P, none⟩ : TbK) ∈ TG ∧ ∀ z ∈ TG, z.P = P → z.q = none) (hcode : X.env.code = .ref c) (S : GnS X.N X.env.scope scope own) (hi : DI X TG W tg iter it)
    (ps : GenDs2 X TG k scope tg elt ifs tg1 iter1 ifs1 ns T t it1 ns1 T1 t1 d) (hns : ∀ i ∈ ns, i ∈ own.map (·.2) := by decide) (hns1 : ∀ i ∈ ns1, i ∈ ow1 := by decide) (hv : ∀ i ∈ ow1, i ∈ own.map (·.2) := by decide) (hs : ∀ v, genFold iter X.env v = pure v := by intro _; rfl) (hs1 : ∀ env x, foldedSetIterable iter1 env x = pure x := by intro _ _; rfl)
    (he : starEach [ge2 elt tg iter ifs tg1 iter1 ifs1 scope gpos] X.env = (false, eval (ge2 elt tg iter ifs tg1 iter1 ifs1 scope gpos) X.env) :: starEach [] X.env := by rfl) :
    DE X TG W (.Call (.Name "all" p) [.GeneratorExp elt [⟨tg, iter, ifs, 0⟩, ⟨tg1, iter1, ifs1, 0⟩] scope gpos] [] pos) (dGen2 false (own.map (·.2)) ow1 it T t it1 T1 t1 d) := PE_imp (pe_all2 hr hc hN hg hm TB hcode S hi ps.ps hs hs1 hv he) fun s H Q q => rd_gen2 hP hns hns1 hv q
theorem de_any2 (hr : Room (k + 3) X.A) (hc : X.calm = true) (hN : X.N.Nodup) (hg : Gl X "any") (hm : X.mg "any" = none) (TB : GxR.TabB X.base X.mg c P) (hP : (⟨P, none⟩ : TbK) ∈ TG ∧ ∀ z ∈ TG, z.P = P → z.q = none) (hcode : X.env.code = .ref c) (S : GnS X.N X.env.scope scope own) (hi : DI X TG W tg iter it)
    (ps : GenDs2 X TG k scope tg elt ifs tg1 iter1 ifs1 ns T t it1 ns1 T1 t1 d) (hns : ∀ i ∈ ns, i ∈ own.map (·.2) := by decide) (hns1 : ∀ i ∈ ns1, i ∈ ow1 := by decide) (hv : ∀ i ∈ ow1, i ∈ own.map (·.2) := by decide) (hs : ∀ v, genFold iter X.env v = pure v := by intro _; rfl) (hs1 : ∀ env x, foldedSetIterable iter1 env x = pure x := by intro _ _; rfl)
    (he : starEach [ge2 elt tg iter ifs tg1 iter1 ifs1 scope gpos] X.env = (false, eval (ge2 elt tg iter ifs tg1 iter1 ifs1 scope gpos) X.env) :: starEach [] X.env := by rfl) :
    DE X TG W (.Call (.Name "any" p) [.GeneratorExp elt [⟨tg, iter, ifs, 0⟩, ⟨tg1, iter1, ifs1, 0⟩] scope gpos] [] pos) (dGen2 true (own.map (·.2)) ow1 it T t it1 T1 t1 d) := PE_imp (pe_any2 hr hc hN hg hm TB hcode S hi ps.ps hs hs1 hv he) fun s H Q q => rd_gen2 hP hns hns1 hv q
end
end TW

end
section
namespace TW
open PySem PySem.Spec PyProof.Rows L2

/-! ### range(i, j, c) -/
def rangeC (lo c : Int) (n : Nat) : List PyData := (List.range n).map fun (i : Nat) => PyData.int (lo + (i : Int) * c)
theorem rangeC_len (lo c : Int) (n : Nat) : (rangeC lo c n).length = n := by simp [rangeC]
theorem it_rangeC {K : PySem.W.Frag} {G : Hp} {lo c : Int} {n : Nat} : ItOk K G (rangeC lo c n) (Itc lo c n) where
  go := fun i H _ hi => by rw [rangeC_len] at hi; exact hi
  stop := fun H _ => by rw [rangeC_len]; exact Nat.le_refl _
  yld := fun i H x H' G1 e1 e2 hi y => by
    obtain ⟨rfl, rfl⟩ := y
    rw [rangeC_len] at hi
    exact ⟨.int (lo + (i : Int) * c), G1, by simp [rangeC, hi], Grow.refl e2, rfl⟩
def iRange3 : List PyData → M (List PyData)
  | [.int i, .int j, .int c] => if c ≠ 0 ∧ c.natAbs < 1073741824 ∧ Builtin.Range.small i j c = true ∧ 0 ≤ Builtin.Range.rangeSize i j c then .ret (rangeC i c (Builtin.Range.rangeSize i j c).toNat) else .st
  | _ => .st
section
variable {X : Cx} {TG : TGx} {W : WX} {tg e e2 e3 : Expr} {r : M (List Arg)} {p pos : Pos}
theorem di_range3 (hg : Gl X "range") (hm : X.mg "range" = none) (ha : DA X TG W [e, e2, e3] r) (hs : starEach [e, e2, e3] X.env = (false, eval e X.env) :: starEach [e2, e3] X.env := by rfl) (hpl : (backTo pos (starEach [e2, e3] X.env)).any (·.1) = false := by rfl) :
    DI X TG W tg (.Call (.Name "range" p) [e, e2, e3] [] pos) (aBind r iRange3) := PI_imp (pi_range3 hg hm ha hs hpl) fun s H R q => by
  obtain ⟨B, F, G0, G, z, i, p⟩ := rdI_args q
  refine ⟨B, F, G0, G, z, i, post_imp (fun xs H1 q => ?_) _ p⟩
  obtain ⟨B, F, G0, G1, r1, ds, i1, v1, p1⟩ := q
  unfold iRange3 at p1
  split at p1
  · rename_i j k c
    split at p1
    · rename_i hz
      obtain ⟨x, r, rfl, v2, y, r', rfl, v3, z', r'', rfl, v4, v5⟩ := v1
      cases v2; cases v3; cases v4; cases v5
      exact ⟨j, k, c, _, rfl, ⟨hz.1, hz.2.1, hz.2.2.1, by rw [Int.toNat_of_nonneg hz.2.2.2]⟩, p1 G1 H1 _ (.refl _) i1 it_rangeC⟩
    · exact p1.elim
  · exact p1.elim
end
end TW

end
section
/-! printed by pr.py: what the defs compute -/
namespace K70
open PySem PySem.Spec PyProof.Rows L2 TW
def D__law_error : M PyData := fnOf 1 4 (sSeq (sSetX 1 (xV (dC .none)))
  (sSeq (sTry 2 cs_all .st (sSeq (sSetX 3 (xL (lLst (aV (dIsx 2 cs_all kf_BadAsk) (aV (dIsx 2 cs_all kf_BadWorld) (aV (dIsx 2 cs_all kf_BadNumber) aNil))))))
  (sSeq (sSetX 3 (xBin fAdd (oN 3) (oV (dFz (lLst (aV (dIsx 2 cs_all kf_BadQuestion) (aV (dIsx 2 cs_all kf_BadEdits) aNil)))))))
  (sSeq (sSetX 3 (xBin fAdd (oN 3) (oV (dFz (lLst (aV (dIsx 2 cs_all kf_BadKeeper) aNil))))))
  (sSeq (sSetX 3 (xBin fAdd (oN 3) (oV (dFz (lLst (aV (dIsx 2 cs_all kf_BadMessages) (aV (dIsx 2 cs_all kf_BadString) aNil)))))))
  (sSeq (sSetX 3 (xBin fAdd (oN 3) (oV (dFz (lLst (aV (dIsx 2 cs_all kf_BadText) aNil))))))
  (sSeq (sSetX 3 (xBin fAdd (oN 3) (oV (dFz (lLst (aV (dIsx 2 cs_all kf_NoKeeper) (aV (dIsx 2 cs_all kf_Answerable) aNil)))))))
  (sSetX 1 (xV (dIf (dtAnd ((dBin fEq (oV (mValT "list" fCount (oN 3) (aO (oV (dC (.bool true))) aNil))) (oV (dC (.int 1)))).bind asB) ((dIsx 2 cs_all kf_ValueError).bind asB)) (mValT "list" fIndex (oN 3) (aO (oV (dC (.bool true))) aNil)) (dC (.str "other"))))))))))))
  (sRet (dVar 1))))
def D__law_taken : M PyData := fnOf 2 4 (sSeq (sIf ((dBin fGt (oV (dBin fIx (oN 0) (oV (dC (.int 3))))) (oV (dC (.int 0)))).bind asB) (sSeq (sSetX 2 (xV (dBin fMod (oV (dFx (xFn fToInt (aO (oV (dBin fIx (oN 0) (oV (dC (.int 3))))) aNil)))) (oN 1))))
  (sSeq (sPutN 0 (dC (.int 3)) (dBin fDiv (oV (dBin fIx (oN 0) (oV (dC (.int 3))))) (oN 1)))
  (sRet (dVar 2)))) sNil)
  (sSeq (sPutN 0 (dC (.int 1)) (dFx (xBin fAdd (oV (dBin fIx (oN 0) (oV (dC (.int 1))))) (oV (dC (.int 1))))))
  (sSeq (sIf ((dBin fGt (oV (dBin fIx (oN 0) (oV (dC (.int 1))))) (oV (dFx (xFn fLen (aO (oV (dBin fIx (oN 0) (oV (dC (.int 0))))) aNil))))).bind asB) (sSeq (sPutN 0 (dC (.int 2)) (dBin fMod (oV (dFx (xFn fToInt (aO (oV (dFx (xBin fAdd (oV (dFx (xBin fMul (oV (dBin fIx (oN 0) (oV (dC (.int 2))))) (oV (dC (.int 48271)))))) (oV (dC (.int 11)))))) aNil)))) (oV (dC (.int 2147483647)))))
  (sRet (dBin fMod (oV (dFx (xFn fToInt (aO (oV (dBin fDiv (oV (dBin fIx (oN 0) (oV (dC (.int 2))))) (oV (dC (.int 7))))) aNil)))) (oN 1)))) sNil)
  (sSeq (sSetX 3 (xV (dBin fIx (oV (dBin fIx (oN 0) (oV (dC (.int 0))))) (oV (dBin fSub (oV (dBin fIx (oN 0) (oV (dC (.int 1))))) (oV (dC (.int 1))))))))
  (sSeq (sPutN 0 (dC (.int 2)) (dBin fMod (oV (dFx (xFn fToInt (aO (oV (dFx (xBin fAdd (oV (dFx (xBin fAdd (oV (dFx (xBin fMul (oV (dBin fIx (oN 0) (oV (dC (.int 2))))) (oV (dC (.int 48271)))))) (oN 3)))) (oV (dC (.int 11)))))) aNil)))) (oV (dC (.int 2147483647)))))
  (sSeq (sIf ((dBin fGe (oN 3) (oV (dBin fPow (oV (dC (.int 10))) (oV (dC (.int 18)))))).bind asB) (sPutN 0 (dC (.int 3)) (dBin fDiv (oN 3) (oN 1))) sNil)
  (sRet (dBin fMod (oV (dFx (xFn fToInt (aO (oN 3) aNil)))) (oN 1)))))))))
def D__law_pick : M PyData := fnOf 2 2 (sRet (dBin fIx (oN 1) (oV (dCall (D__law_taken) (aIo 0 (aV (dFx (xFn fLen (aO (oN 1) aNil))) aNil))))))
def D_parted : M PyData := fnOf 2 9 (sSeq (sSetX 2 (xL (lLc [3] (iSeq (dVar 1)) (gN 3) tYesD (mValT "list" fIndex (oN 1) (aO (oN 3) aNil)))))
  (sWhile ((dC (.bool true)).bind asB) (sSeq (sSetX 4 (xL (lLc [6] (aBind (aV (dFx (xFn fLen (aO (oN 0) aNil))) aNil) iRange1) (gN 6) tYesD (dFx (xBin fAdd (oV (dTup (aV (dBin fIx (oN 2) (oN 6)) aNil))) (oV (dFx (xFn fTuple (aO (oV (dFz (lLc [8] (iSeq (dBin fIx (oN 0) (oN 6))) (gN 8) tYesD (dBin fIx (oN 2) (oN 8))))) aNil)))))))))
  (sSeq (sSetL 5 (lLc [7] (iSeq (dVar 4)) (gN 7) tYesD (mValT "list" fIndex (oN 4) (aO (oN 7) aNil))))
  (sSeq (sIf ((dBin fEq (oN 5) (oN 2)).bind asB) (sRet (dVar 2)) sNil)
  (sSetX 2 (xV (dVar 5))))))))
def D_shrunk : M PyData := fnOf 2 10 (sSeq (sSetX 2 (xV (dCall (D_parted) (aV (dVar 0) (aV (dFx (xFn fList (aO (oN 1) aNil))) aNil)))))
  (sSeq (sPar [3, 4, 5, 6] (axCons (xDisp1 (dBin fIx (oN 2) (oV (dC (.int 0)))) (dC (.int 0))) (axCons (xL (lLst (aV (dC (.int 0)) aNil))) (axCons (xL (lLst aNil)) (axCons (xV (dC (.int 0))) axNil)))))
  (sSeq (sWhile ((dBin fLt (oN 6) (oV (dFx (xFn fLen (aO (oN 4) aNil))))).bind asB) (sSeq (sSetX 7 (xL (lLst aNil)))
  (sSeq (sFor (iSeq (dBin fIx (oN 0) (oV (dBin fIx (oN 4) (oN 6))))) (gN 8) (sSeq (sIf ((dBin (fIn true) (oV (dBin fIx (oN 2) (oN 8))) (oN 3)).bind asB) (sSeq (sPutN 3 (dBin fIx (oN 2) (oN 8)) (dFx (xFn fLen (aO (oN 4) aNil))))
  (sDrop (mOwn 4 fAppend (aV (dVar 8) aNil)))) sNil)
  (sDrop (mOwn 7 fAppend (aV (dBin fIx (oN 3) (oV (dBin fIx (oN 2) (oN 8)))) aNil)))))
  (sSeq (sDrop (mOwn 5 fAppend (aV (dFx (xFn fTuple (aO (oN 7) aNil))) aNil)))
  (sAug true 6 gAdd (dC (.int 1)))))))
  (sRet (dTup (aV (dFx (xFn fTuple (aO (oN 5) aNil))) (aV (dFx (xFn fTuple (aO (oV (dFz (lLc [9] (iSeq (dVar 4)) (gN 9) tYesD (dBin fIx (oN 1) (oN 9))))) aNil))) aNil)))))))
def D_least_of : M PyData := fnOf 1 3 (sSeq (sAsg (dCall (D_shrunk) (aV (dBin fIx (oN 0) (oV (dC (.int 1)))) (aV (dBin fIx (oN 0) (oV (dC (.int 2)))) aNil))) (gT (gLen 2 (gsC (gN 1) (gsC (gN 2) gsN)))))
  (sRet (dTup (aV (dBin fIx (oN 0) (oV (dC (.int 0)))) (aV (dVar 1) (aV (dVar 2) aNil))))))
def D_is_number : M PyData := fnOf 3 3 (sRet (dAnd (dIsi "int" (oN 0)) (dAnd (dNot (dIsi "bool" (oN 0))) (dChain fLe fLe (oN 1) (oN 0) (oN 2)))))
def D_need_counts : M PyData := fnOf 2 3 (sSeq (sIf (dtOr (dtNot ((dIsi "tuple" (oN 1)).bind asB)) ((dBin fNe (oV (dFx (xFn fLen (aO (oN 1) aNil)))) (oN 0)).bind asB)) (sRaise0 "BadNumber") sNil)
  (sIf ((dBin fNe (oV (dFz (lLc [2] (iSeq (dVar 1)) (gN 2) (dtNot ((dCall (D_is_number) (aV (dVar 2) (aV (dC (.int 0)) (aV (dC con_MOST_COUNT) aNil)))).bind asB)) (dVar 2)))) (oV (dFz (lLst aNil)))).bind asB) (sRaise0 "BadNumber") sNil))
def D_are_steps : M PyData := fnOf 3 5 (sSeq (sIf (dtOr (dtNot ((dIsi "tuple" (oN 0)).bind asB)) (dtNot ((dChain fLe fLe (oV (dC (.int 1))) (oV (dFx (xFn fLen (aO (oN 0) aNil)))) (oN 2)).bind asB))) (sRet (dC (.bool false))) sNil)
  (sSeq (sFor (iSeq (dVar 0)) (gN 3) (sSeq (sIf (dtOr (dtNot ((dIsi "tuple" (oN 3)).bind asB)) ((dBin fNe (oV (dFx (xFn fLen (aO (oN 3) aNil)))) (oN 1)).bind asB)) (sRet (dC (.bool false))) sNil)
  (sIf (dtNot ((dGen false [4] (iSeq (dVar 3)) (gN 4) tYesD (dCall (D_is_number) (aV (dVar 4) (aV (dC (.int 0)) (aV (dBin fSub (oV (dFx (xFn fLen (aO (oN 0) aNil)))) (oV (dC (.int 1)))) aNil))))).bind asB)) (sRet (dC (.bool false))) sNil)))
  (sRet (dC (.bool true)))))
def D_need_question : M PyData := fnOf 1 5 (sSeq (sIf (dtOr (dtNot ((dIsi "tuple" (oN 0)).bind asB)) ((dBin fNe (oV (dFx (xFn fLen (aO (oN 0) aNil)))) (oV (dC (.int 3)))).bind asB)) (sRaise1 "BadQuestion" "part" (dC (.str "question"))) sNil)
  (sSeq (sAsg (dVar 0) (gT (gLen 3 (gsC (gN 1) (gsC (gN 2) (gsC (gN 3) gsN))))))
  (sSeq (sIf (dtNot ((dCall (D_is_number) (aV (dVar 1) (aV (dC (.int 1)) (aV (dC con_MOST_LETTERS) aNil)))).bind asB)) (sRaise1 "BadQuestion" "part" (dC (.str "letters"))) sNil)
  (sSeq (sIf (dtNot ((dCall (D_are_steps) (aV (dVar 2) (aV (dVar 1) (aV (dC con_MOST_STATES) aNil)))).bind asB)) (sRaise1 "BadQuestion" "part" (dC (.str "steps"))) sNil)
  (sSeq (sIf (dtOr (dtNot ((dIsi "tuple" (oN 3)).bind asB)) ((dBin fNe (oV (dFx (xFn fLen (aO (oN 3) aNil)))) (oV (dFx (xFn fLen (aO (oN 2) aNil))))).bind asB)) (sRaise1 "BadQuestion" "part" (dC (.str "answers"))) sNil)
  (sIf (dtNot ((dGen false [4] (iSeq (dVar 3)) (gN 4) tYesD (dCall (D_is_number) (aV (dVar 4) (aV (dC (.int 0)) (aV (dC con_MOST_ANSWER) aNil))))).bind asB)) (sRaise1 "BadQuestion" "part" (dC (.str "answers"))) sNil))))))
def D_all_below : M PyData := fnOf 1 5 (sSeq (sSetX 1 (xL (lLst (aV (dTup aNil) aNil))))
  (sSeq (sFor (iSeq (dVar 0)) (gN 2) (sSetL 1 (lLc2 [3, 4] [4] (iSeq (dVar 1)) (gN 3) tYesD (aBind (aV (dFx (xBin fAdd (oN 2) (oV (dC (.int 1))))) aNil) iRange1) (gN 4) tYesD (dFx (xBin fAdd (oN 3) (oV (dTup (aV (dVar 4) aNil))))))))
  (sRet (dVar 1))))
def D_ways_to : M PyData := fnOf 2 10 (sSeq (sSetX 2 xNew)
  (sSeq (sFor (iSeq (dCall (D_all_below) (aV (dVar 1) aNil))) (gN 3) (sSeq (sSetX 4 xNew)
  (sSeq (sIf ((dBin fEq (oV (dFx (xFn fSum (aO (oN 3) aNil)))) (oV (dC (.int 0)))).bind asB) (sPutN 4 (dC (.int 0)) (dC (.int 1))) sNil)
  (sSeq (sFor (aBind (aV (dVar 3) aNil) iEnum) (gT (gLen 2 (gsC (gN 5) (gsC (gN 6) gsN)))) (sIf ((dBin fGt (oN 6) (oV (dC (.int 0)))).bind asB) (sSeq (sSetX 7 (xV (dBin fIx (oN 2) (oV (dFx (xBin fAdd (oV (dFx (xBin fAdd (oV (dFx (xSl (oN 3) pNo (pAt (dVar 5))))) (oV (dTup (aV (dBin fSub (oN 6) (oV (dC (.int 1)))) aNil)))))) (oV (dFx (xSl (oN 3) (pAt (dFx (xBin fAdd (oN 5) (oV (dC (.int 1)))))) pNo)))))))))
  .st) sNil))
  (sPutN 2 (dVar 3) (dVar 4))))))
  (sRet (dBin fIx (oN 2) (oN 1)))))
def D_arrangements : M PyData := fnOf 2 7 (sSeq (sDrop (dCall (D_need_question) (aV (dVar 0) aNil)))
  (sSeq (sDrop (dCall (D_need_counts) (aV (dBin fIx (oN 0) (oV (dC (.int 0)))) (aV (dVar 1) aNil))))
  (sSeq (sPar [2, 3] (axCons (xV (dCall (D_least_of) (aV (dVar 0) aNil))) (axCons xNew axNil)))
  (sSeq (sSetX 4 (xV (dCall (D_ways_to) (aV (dVar 2) (aV (dVar 1) aNil)))))
  .st))))
def D_led : M PyData := fnOf 3 4 (sSeq (sFor (iSeq (dVar 2)) (gN 3) (sSetX 1 (xV (dBin fIx (oV (dBin fIx (oN 0) (oN 1))) (oN 3)))))
  (sRet (dVar 1)))
def D_letter_maps : M PyData := fnOf 1 6 (sSeq (sAsg (dVar 0) (gT (gLen 3 (gsC (gN 1) (gsC (gN 2) (gsC (gN 3) gsN))))))
  (sRet (dFz (lLc [4] (aBind (aV (dVar 1) aNil) iRange1) (gN 4) tYesD (dFx (xFn fTuple (aO (oV (dFz (lLc [5] (iSeq (dVar 2)) (gN 5) tYesD (dBin fIx (oN 5) (oN 4))))) aNil)))))))
def D_are_one_to_one : M PyData := fnOf 1 2 (sRet (dGen false [1] (iSeq (dCall (D_letter_maps) (aV (dVar 0) aNil))) (gN 1) tYesD (dBin fEq (oV (dLenSet (oN 1))) (oV (dFx (xFn fLen (aO (oN 1) aNil)))))))
def D_then : M PyData := fnOf 2 3 (sRet (dFx (xFn fTuple (aO (oV (dFz (lLc [2] (iSeq (dVar 0)) (gN 2) tYesD (dBin fIx (oN 1) (oN 2))))) aNil))))
def D_do_commute : M PyData := fnOf 1 4 (sSeq (sSetX 1 (xV (dCall (D_letter_maps) (aV (dVar 0) aNil))))
  (sRet (dGen2 false [2, 3] [3] (iSeq (dVar 1)) (gN 2) tYesD (iSeq (dVar 1)) (gN 3) tYesD (dBin fEq (oV (dCall (D_then) (aV (dVar 2) (aV (dVar 3) aNil)))) (oV (dCall (D_then) (aV (dVar 3) (aV (dVar 2) aNil))))))))
def D_can : M PyData := fnOf 2 2 (sSeq (sIf (dtAnd ((dBin (fIn false) (oN 0) (oV (dC con_ONE_TO_ONE))).bind asB) (dtNot ((dCall (D_are_one_to_one) (aV (dVar 1) aNil)).bind asB))) (sRet (dC (.bool false))) sNil)
  (sRet (dOr (dBin (fIn true) (oN 0) (oV (dC con_ORDERLESS))) (dCall (D_do_commute) (aV (dVar 1) aNil)))))
def D_done : M PyData := fnOf 3 5 (sSeq (sSetX 3 (xV (dBin fIx (oN 2) (oV (dC (.int 0))))))
  (sSeq (sIf ((dBin fEq (oN 3) (oV (dC (.str "turn")))).bind asB) (sRet (dFx (xIf ((dBin fEq (oN 0) (oV (dC (.str "relabel")))).bind asB) (xFn fTuple (aO (oV (dFz (lLc [4] (iSeq (dVar 1)) (gN 4) tYesD (dBin fIx (oV (dBin fIx (oN 2) (oV (dC (.int 1))))) (oN 4))))) aNil)) (xV (dRevT (dVar 1)))))) sNil)
  (sSeq (sIf ((dBin fEq (oN 3) (oV (dC (.str "chop")))).bind asB) (sRet (dFx (xSl (oN 1) pNo (pAt (dNeg (dC (.int 1))))))) sNil)
  (sSeq (sIf ((dBin fEq (oN 3) (oV (dC (.str "behead")))).bind asB) (sRet (dFx (xSl (oN 1) (pAt (dC (.int 1))) pNo))) sNil)
  (sSeq (sIf ((dBin fEq (oN 3) (oV (dC (.str "front")))).bind asB) (sRet (dFx (xBin fAdd (oV (dTup (aV (dBin fIx (oN 2) (oV (dC (.int 1)))) aNil))) (oN 1)))) sNil)
  (sSeq (sIf ((dBin (fIn true) (oN 0) (oV (dC con_HIDDEN))).bind asB) (sRet (dFx (xBin fAdd (oN 1) (oV (dTup (aV (dBin fIx (oN 2) (oV (dC (.int 1)))) aNil)))))) sNil)
  (sSeq (sIf ((dBin fEq (oN 3) (oV (dC (.str "take")))).bind asB) (sRet (dFx (xBin fAdd (oV (dFx (xSl (oN 1) pNo (pAt (dBin fIx (oN 2) (oV (dC (.int 2)))))))) (oV (dFx (xSl (oN 1) (pAt (dFx (xBin fAdd (oV (dBin fIx (oN 2) (oV (dC (.int 2))))) (oV (dC (.int 1)))))) pNo)))))) sNil)
  (sRet (dFx (xBin fAdd (oV (dFx (xBin fAdd (oV (dFx (xSl (oN 1) pNo (pAt (dBin fIx (oN 2) (oV (dC (.int 2)))))))) (oV (dTup (aV (dBin fIx (oN 2) (oV (dC (.int 1)))) aNil)))))) (oV (dFx (xSl (oN 1) (pAt (dBin fIx (oN 2) (oV (dC (.int 2))))) pNo)))))))))))))
def D_orders : M PyData := fnOf 1 5 (sSeq (sSetX 1 (xL (lLst (aV (dTup aNil) aNil))))
  (sSeq (sFor (aBind (aV (dVar 0) aNil) iRange1) (gN 2) (sSetL 1 (lLc2 [3, 4] [4] (iSeq (dVar 1)) (gN 3) tYesD (aBind (aV (dVar 0) aNil) iRange1) (gN 4) ((dBin (fIn true) (oN 4) (oN 3)).bind asB) (dFx (xBin fAdd (oN 3) (oV (dTup (aV (dVar 4) aNil))))))))
  (sRet (dFx (xFn fSorted (aO (oN 1) aNil))))))
def D_all_messages : M PyData := fnOf 2 6 (sSeq (sSetL 2 (lLc2 [3, 4] [4] (iSeq (dKix tab_KINDS_worlds (dVar 0))) (gN 3) tYesD (aBind (aV (dVar 1) aNil) iRange1) (gN 4) tYesD (dTup (aV (dVar 3) (aV (dVar 4) aNil)))))
  (sSeq (sIf ((dBin fEq (oN 0) (oV (dC (.str "relabel")))).bind asB) (sAug true 2 gAdd (dFz (lLc [5] (iSeq (dCall (D_orders) (aV (dVar 1) aNil))) (gN 5) tYesD (dTup (aV (dC (.str "turn")) (aV (dVar 5) aNil)))))) sNil)
  (sSeq (sIf ((dBin fEq (oN 0) (oV (dC (.str "reverse")))).bind asB) (sDrop (mOwn 2 fAppend (aV (dTup (aV (dC (.str "turn")) aNil)) aNil))) sNil)
  (sRet (dFx (xFn fSorted (aO (oN 2) aNil)))))))
def D_memories : M PyData := fnOf 4 7 (sSeq (sSetX 4 (xV (dCall (D_all_messages) (aV (dVar 0) (aV (dVar 1) aNil)))))
  (sSeq (sSetX 5 (xL (lLst (aV (dC (.int 0)) aNil))))
  (sSeq (sFor (iSeq (dVar 3)) (gN 6) (sDrop (mOwn 5 fAppend (aV (dBin fIx (oV (dBin fIx (oV (dBin fIx (oN 2) (oV (dC (.int 0))))) (oV (dBin fIx (oN 5) (oV (dNeg (dC (.int 1)))))))) (oV (mValT "list" fIndex (oN 4) (aO (oN 6) aNil)))) aNil))))
  (sRet (dVar 5)))))
def D_message_of : M PyData := fnOf 2 2 (sRet (dFx (xIf ((dBin (fIn false) (oN 0) (oV (dC con_HIDDEN))).bind asB) (xSl (oN 1) pNo (pAt (dC (.int 2)))) (xV (dVar 1)))))
def D_is_like : Nat → M PyData
  | 0 => fnOf 2 4 .st
  | n + 1 => fnOf 2 4 (sSeq (sIf ((dIsi "tuple" (oN 1)).bind asB) (sSeq (sIf (dtOr (dtNot ((dIsi "tuple" (oN 0)).bind asB)) ((dBin fNe (oV (dFx (xFn fLen (aO (oN 0) aNil)))) (oV (dFx (xFn fLen (aO (oN 1) aNil))))).bind asB)) (sRet (dC (.bool false))) sNil)
  (sRet (dGen false [2, 3] (aBind (aV (dVar 0) (aV (dVar 1) aNil)) iZip) (gT (gLen 2 (gsC (gN 2) (gsC (gN 3) gsN)))) tYesD (dCall (D_is_like n) (aV (dVar 2) (aV (dVar 3) aNil)))))) sNil)
  (sSeq (sIf (dtOr ((dIsi "bool" (oN 0)).bind asB) ((dBin fNe (oV (dIsi "str" (oN 0))) (oV (dIsi "str" (oN 1)))).bind asB)) (sRet (dC (.bool false))) sNil)
  (sRet (dBin fEq (oN 0) (oN 1)))))
def D_is_edit : M PyData := fnOf 4 7 (sSeq (sIf (dtOr (dtNot ((dIsi "tuple" (oN 3)).bind asB)) (dtNot (dTr (dVar 3)))) (sRet (dC (.bool false))) sNil)
  (sSeq (sSetX 4 (xIf ((dBin (fIn false) (oN 0) (oV (dC con_HIDDEN))).bind asB) (xSl (oN 3) pNo (pAt (dC (.int 2)))) (xV (dVar 3))))
  (sSeq (sIf (dtNot ((dGen true [5] (iSeq (dCall (D_all_messages) (aV (dVar 0) (aV (dVar 1) aNil)))) (gN 5) tYesD (dCall (D_is_like 6) (aV (dVar 4) (aV (dVar 5) aNil)))).bind asB)) (sRet (dC (.bool false))) sNil)
  (sSeq (sSetX 6 (xV (dBin fIx (oN 3) (oV (dC (.int 0))))))
  (sSeq (sIf ((dBin (fIn false) (oN 0) (oV (dC con_HIDDEN))).bind asB) (sSeq (sIf (dtOr ((dBin fNe (oV (dFx (xFn fLen (aO (oN 3) aNil)))) (oV (dC (.int 3)))).bind asB) (dtNot ((dCall (D_is_number) (aV (dBin fIx (oN 3) (oV (dC (.int 2)))) (aV (dC (.int 0)) (aV (dFx (xFn fLen (aO (oN 2) aNil))) aNil)))).bind asB))) (sRet (dC (.bool false))) sNil)
  (sIf ((dBin fEq (oN 6) (oV (dC (.str "take")))).bind asB) (sRet (dAnd (dBin fLt (oV (dBin fIx (oN 3) (oV (dC (.int 2))))) (oV (dFx (xFn fLen (aO (oN 2) aNil))))) (dBin fEq (oV (dBin fIx (oN 2) (oV (dBin fIx (oN 3) (oV (dC (.int 2))))))) (oV (dBin fIx (oN 3) (oV (dC (.int 1)))))))) sNil)) sNil)
  (sSeq (sIf ((dBin fEq (oN 6) (oV (dC (.str "chop")))).bind asB) (sRet (dAnd (dFx (xFn fBool (aO (oN 2) aNil))) (dBin fEq (oV (dBin fIx (oN 2) (oV (dNeg (dC (.int 1)))))) (oV (dBin fIx (oN 3) (oV (dC (.int 1)))))))) sNil)
  (sSeq (sIf ((dBin fEq (oN 6) (oV (dC (.str "behead")))).bind asB) (sRet (dAnd (dFx (xFn fBool (aO (oN 2) aNil))) (dBin fEq (oV (dBin fIx (oN 2) (oV (dC (.int 0))))) (oV (dBin fIx (oN 3) (oV (dC (.int 1)))))))) sNil)
  (sRet (dOr (dBin fEq (oN 6) (oV (dC (.str "turn")))) (dBin fLt (oV (dFx (xFn fLen (aO (oN 2) aNil)))) (oV (dC con_MOST_TEXT))))))))))))
def D_first_wrong_edit : M PyData := fnOf 3 6 (sSeq (sSetX 3 (xV (dTup aNil)))
  (sSeq (sFor (aBind (aV (dVar 2) aNil) iEnum) (gT (gLen 2 (gsC (gN 4) (gsC (gN 5) gsN)))) (sSeq (sIf (dtNot ((dCall (D_is_edit) (aV (dVar 0) (aV (dVar 1) (aV (dVar 3) (aV (dVar 5) aNil))))).bind asB)) (sRet (dTup (aV (dVar 3) (aV (dVar 4) aNil)))) sNil)
  (sSetX 3 (xV (dCall (D_done) (aV (dVar 0) (aV (dVar 3) (aV (dVar 5) aNil))))))))
  (sRet (dTup (aV (dVar 3) (aV (dC .none) aNil))))))
def D_need_edits : M PyData := fnOf 3 5 (sSeq (sIf (dtOr (dtNot ((dIsi "tuple" (oN 2)).bind asB)) ((dBin fGt (oV (dFx (xFn fLen (aO (oN 2) aNil)))) (oV (dC con_MOST_EDITS))).bind asB)) (sRaise1 "BadEdits" "index" (dC .none)) sNil)
  (sSeq (sAsg (dCall (D_first_wrong_edit) (aV (dVar 0) (aV (dVar 1) (aV (dVar 2) aNil)))) (gT (gLen 2 (gsC (gN 3) (gsC (gN 4) gsN)))))
  (sSeq (sIf ((dBin fIsNot (oN 4) (oV (dC .none))).bind asB) (sRaise1 "BadEdits" "index" (dVar 4)) sNil)
  (sRet (dVar 3)))))
def D_need_world : M PyData := fnOf 1 1 (sIf (dtOr (dtNot ((dIsi "str" (oN 0)).bind asB)) ((dBin (fIn true) (oN 0) (oV (dC con_WORLDS))).bind asB)) (sRaise0 "BadWorld") sNil)
def D_made : M PyData := fnOf 2 12 .st
def D_right_keeper : M PyData := fnOf 2 3 (sSeq (sSetX 2 (xV (dCall (D_least_of) (aV (dVar 1) aNil))))
  (sSeq (sIf (dtNot ((dCall (D_can) (aV (dVar 0) (aV (dVar 2) aNil))).bind asB)) (sRaise0 "NoKeeper") sNil)
  (sRet (dCall (D_made) (aV (dVar 0) (aV (dVar 2) aNil))))))
def D_tale : M PyData := fnOf 3 11 (sSeq (sDrop (dCall (D_need_world) (aV (dVar 0) aNil)))
  (sSeq (sDrop (dCall (D_need_question) (aV (dVar 1) aNil)))
  (sSeq (sDrop (dCall (D_need_edits) (aV (dVar 0) (aV (dBin fIx (oN 1) (oV (dC (.int 0)))) (aV (dVar 2) aNil)))))
  (sSeq (sSetX 3 (xV (dCall (D_least_of) (aV (dVar 1) aNil))))
  (sSeq (sIf (dtNot ((dCall (D_can) (aV (dVar 0) (aV (dVar 3) aNil))).bind asB)) (sRaise0 "NoKeeper") sNil)
  (sSeq (sSetX 4 (xV (dCall (D_right_keeper) (aV (dVar 0) (aV (dVar 1) aNil)))))
  (sSeq (sSetL 5 (lLc [6] (iSeq (dVar 2)) (gN 6) tYesD (dCall (D_message_of) (aV (dVar 0) (aV (dVar 6) aNil)))))
  (sSeq (sPar [7, 8, 9] (axCons (xV (dCall (D_memories) (aV (dVar 0) (aV (dBin fIx (oN 1) (oV (dC (.int 0)))) (aV (dVar 4) (aV (dVar 5) aNil)))))) (axCons (xV (dTup aNil)) (axCons (xL (lLst aNil)) axNil))))
  (sSeq (sFor (aBind (aV (dVar 2) aNil) iEnum) (gT (gLen 2 (gsC (gN 10) (gsC (gN 6) gsN)))) (sSeq (sSetX 8 (xV (dCall (D_done) (aV (dVar 0) (aV (dVar 8) (aV (dVar 6) aNil))))))
  (sDrop (mOwn 9 fAppend (aV (dTup (aV (dBin fIx (oN 5) (oN 10)) (aV (dVar 8) (aV (dBin fIx (oV (dBin fIx (oN 4) (oV (dC (.int 1))))) (oV (dBin fIx (oN 7) (oV (dFx (xBin fAdd (oN 10) (oV (dC (.int 1))))))))) aNil)))) aNil)))))
  (sRet (dFx (xFn fTuple (aO (oN 9) aNil)))))))))))))
def D_is_kept_true : M PyData := fnOf 3 5 (sSeq (sSetX 3 (xV (dCall (D_tale) (aV (dVar 0) (aV (dVar 1) (aV (dVar 2) aNil))))))
  (sRet (dBin fEq (oV (dFz (lLc [4] (iSeq (dVar 3)) (gN 4) ((dBin fNe (oV (dBin fIx (oN 4) (oV (dC (.int 2))))) (oV (dBin fIx (oV (dBin fIx (oN 1) (oV (dC (.int 2))))) (oV (dCall (D_led) (aV (dBin fIx (oN 1) (oV (dC (.int 1)))) (aV (dC (.int 0)) (aV (dBin fIx (oN 4) (oV (dC (.int 1)))) aNil)))))))).bind asB) (dVar 4)))) (oV (dFz (lLst aNil))))))
def D_is_sure : M PyData := fnOf 2 2 (sRet (dBin fEq (oV (dFx (xFn fLen (aO (oV (dCall (D_arrangements) (aV (dVar 0) (aV (dVar 1) aNil)))) aNil)))) (oV (dC (.int 1)))))
def D_possible : M PyData := fnOf 2 4 (sRet (dFx (xFn fTuple (aO (oV (dFz (lLc [2, 3] (iSeq (dCall (D_arrangements) (aV (dVar 0) (aV (dVar 1) aNil)))) (gT (gLen 2 (gsC (gN 2) (gsC (gN 3) gsN)))) tYesD (dVar 2)))) aNil))))
def D_figure_of : M PyData := fnOf 1 2 (sSeq (sIf (dtOr (dtNot ((dChain fLe fLe (oV (dC (.int 1))) (oV (dFx (xFn fLen (aO (oN 0) aNil)))) (oV (dC (.int 4)))).bind asB)) ((dBin fNe (oV (dFz (lLc [1] (iSeq (dVar 0)) (gN 1) ((dBin (fIn true) (oN 1) (oV (dC con_FIGURES))).bind asB) (dVar 1)))) (oV (dFz (lLst aNil)))).bind asB)) (sRet (dC .none)) sNil)
  (sRet (dFx (xIf ((dBin fEq (oV (dFx (xFn fToStr (aO (oV (dFx (xFn fToInt (aO (oN 0) aNil)))) aNil)))) (oN 0)).bind asB) (xFn fToInt (aO (oN 0) aNil)) (xV (dC .none))))))
def D_need_keeper : M PyData := fnOf 3 11 (sSeq (sSetX 3 (xFn fLen (aO (oV (dCall (D_all_messages) (aV (dVar 0) (aV (dVar 1) aNil)))) aNil)))
  (sSeq (sIf (dtOr (dtNot ((dIsi "tuple" (oN 2)).bind asB)) (dtOr ((dBin fNe (oV (dFx (xFn fLen (aO (oN 2) aNil)))) (oV (dC (.int 2)))).bind asB) (dtNot ((dGen false [4] (iSeq (dVar 2)) (gN 4) tYesD (dIsi "tuple" (oN 4))).bind asB)))) (sRaise1 "BadKeeper" "index" (dC .none)) sNil)
  (sSeq (sAsg (dVar 2) (gT (gLen 2 (gsC (gN 5) (gsC (gN 6) gsN)))))
  (sSeq (sIf (dtOr (dtNot ((dChain fLe fLe (oV (dC (.int 1))) (oV (dFx (xFn fLen (aO (oN 5) aNil)))) (oV (dC con_MOST_KEEPER))).bind asB)) ((dBin fNe (oV (dFx (xFn fLen (aO (oN 6) aNil)))) (oV (dFx (xFn fLen (aO (oN 5) aNil))))).bind asB)) (sRaise1 "BadKeeper" "index" (dC .none)) sNil)
  (sFor (aBind (aV (dVar 5) (aV (dVar 6) aNil)) iEnZip) (gT (gLen 2 (gsC (gN 7) (gsC (gT (gLen 2 (gsC (gN 8) (gsC (gN 9) gsN)))) gsN)))) (sSeq (sIf (dtOr (dtNot ((dIsi "tuple" (oN 8)).bind asB)) (dtOr ((dBin fNe (oV (dFx (xFn fLen (aO (oN 8) aNil)))) (oN 3)).bind asB) (dtNot ((dCall (D_is_number) (aV (dVar 9) (aV (dC (.int 0)) (aV (dC con_MOST_ANSWER) aNil)))).bind asB)))) (sRaise1 "BadKeeper" "index" (dVar 7)) sNil)
  (sIf (dtNot ((dGen false [10] (iSeq (dVar 8)) (gN 10) tYesD (dCall (D_is_number) (aV (dVar 10) (aV (dC (.int 0)) (aV (dBin fSub (oV (dFx (xFn fLen (aO (oN 5) aNil)))) (oV (dC (.int 1)))) aNil))))).bind asB)) (sRaise1 "BadKeeper" "index" (dVar 7)) sNil)))))))
def D_need_letters : M PyData := fnOf 1 1 (sIf (dtNot ((dCall (D_is_number) (aV (dVar 0) (aV (dC (.int 1)) (aV (dC con_MOST_LETTERS) aNil)))).bind asB)) (sRaise0 "BadNumber") sNil)
def D_read_keeper : M PyData := fnOf 3 11 (sSeq (sDrop (dCall (D_need_world) (aV (dVar 0) aNil)))
  (sSeq (sDrop (dCall (D_need_letters) (aV (dVar 1) aNil)))
  (sSeq (sIf (dtNot ((dIsi "str" (oN 2)).bind asB)) (sRaise0 "BadString") sNil)
  (sSeq (sPar [3, 4] (axCons (xL (lLst aNil)) (axCons (xL (lLst aNil)) axNil)))
  .st))))
def D_letter_of : M PyData := fnOf 2 3 (sSeq (sSetX 2 (xSl (oV (dC con_NAMES)) pNo (pAt (dVar 0))))
  (sRet (dIf (dtAnd ((dBin fEq (oV (dFx (xFn fLen (aO (oN 1) aNil)))) (oV (dC (.int 1)))).bind asB) ((dBin (fIn false) (oN 1) (oN 2)).bind asB)) (mValT "list" fIndex (oN 2) (aO (oN 1) aNil)) (dC .none))))
def D_place_of : M PyData := fnOf 1 2 (sSeq (sIf (dtOr (dtNot ((dChain fLe fLe (oV (dC (.int 1))) (oV (dFx (xFn fLen (aO (oN 0) aNil)))) (oV (dC (.int 2)))).bind asB)) ((dBin fNe (oV (dFz (lLc [1] (iSeq (dVar 0)) (gN 1) ((dBin (fIn true) (oN 1) (oV (dC con_FIGURES))).bind asB) (dVar 1)))) (oV (dFz (lLst aNil)))).bind asB)) (sRet (dC .none)) sNil)
  (sRet (dFx (xIf ((dBin fEq (oV (dFx (xFn fToStr (aO (oV (dFx (xFn fToInt (aO (oN 0) aNil)))) aNil)))) (oN 0)).bind asB) (xFn fToInt (aO (oN 0) aNil)) (xV (dC .none))))))
def D_edit_of : M PyData := fnOf 2 4 (sSeq (sIf ((dBin (fIn true) (oV (dBin fIx (oN 1) (oV (dC (.int 0))))) (oV (dC con_KINDS_tales))).bind asB) (sRet (dTup (aV (dC .none) (aV (dC (.int 0)) aNil)))) sNil)
  (sSeq (sIf ((dBin fEq (oV (dBin fIx (oN 1) (oV (dC (.int 0))))) (oV (dC (.str "turn")))).bind asB) (sSeq (sSetL 2 (lLc [3] (iSeq (dFx (xSl (oN 1) (pAt (dC (.int 1))) pNo))) (gN 3) tYesD (dCall (D_letter_of) (aV (dVar 0) (aV (dVar 3) aNil)))))
  (sSeq (sIf ((dBin (fIn false) (oV (dC .none)) (oN 2)).bind asB) (sRet (dTup (aV (dC .none) (aV (dFx (xBin fAdd (oV (dC (.int 1))) (oV (mValT "list" fIndex (oN 2) (aO (oV (dC .none)) aNil))))) aNil)))) sNil)
  (sRet (dTup (aV (dIf ((dBin fNe (oN 2) (oV (dFz (lLst aNil)))).bind asB) (dTup (aV (dC (.str "turn")) (aV (dFx (xFn fTuple (aO (oN 2) aNil))) aNil))) (dTup (aV (dC (.str "turn")) aNil))) (aV (dC .none) aNil)))))) sNil)
  (sSeq (sIf (dtOr ((dBin fLt (oV (dFx (xFn fLen (aO (oN 1) aNil)))) (oV (dC (.int 2)))).bind asB) ((dBin fIs (oV (dCall (D_letter_of) (aV (dVar 0) (aV (dBin fIx (oN 1) (oV (dC (.int 1)))) aNil)))) (oV (dC .none))).bind asB)) (sRet (dTup (aV (dC .none) (aV (dC (.int 1)) aNil)))) sNil)
  (sSeq (sIf (dtAnd ((dBin fGt (oV (dFx (xFn fLen (aO (oN 1) aNil)))) (oV (dC (.int 2)))).bind asB) ((dBin fIs (oV (dCall (D_place_of) (aV (dBin fIx (oN 1) (oV (dC (.int 2)))) aNil))) (oV (dC .none))).bind asB)) (sRet (dTup (aV (dC .none) (aV (dC (.int 2)) aNil)))) sNil)
  (sRet (dTup (aV (dFx (xBin fAdd (oV (dTup (aV (dBin fIx (oN 1) (oV (dC (.int 0)))) (aV (dCall (D_letter_of) (aV (dVar 0) (aV (dBin fIx (oN 1) (oV (dC (.int 1)))) aNil))) aNil)))) (oV (dFx (xFn fTuple (aO (oV (dFz (lLc [3] (iSeq (dFx (xSl (oN 1) (pAt (dC (.int 2))) (pAt (dC (.int 3)))))) (gN 3) tYesD (dCall (D_place_of) (aV (dVar 3) aNil))))) aNil)))))) (aV (dC .none) aNil))))))))
def D_read_tale : M PyData := fnOf 3 11 (sSeq (sDrop (dCall (D_need_world) (aV (dVar 0) aNil)))
  (sSeq (sDrop (dCall (D_need_letters) (aV (dVar 1) aNil)))
  (sSeq (sIf (dtNot ((dIsi "str" (oN 2)).bind asB)) (sRaise0 "BadString") sNil)
  (sSeq (sPar [3, 4] (axCons (xL (lLst aNil)) (axCons (xV (dTup aNil)) axNil)))
  .st))))
def D_sure_counts : M PyData := fnOf 2 4 (sSeq (sDrop (dCall (D_need_question) (aV (dVar 0) aNil)))
  (sSeq (sIf (dtNot ((dCall (D_is_number) (aV (dVar 1) (aV (dC (.int 0)) (aV (dC (.int 5)) aNil)))).bind asB)) (sRaise0 "BadNumber") sNil)
  (sSeq (sSetX 2 (xV (dCall (D_all_below) (aV (dFx (xBin fMul (oV (dTup (aV (dVar 1) aNil))) (oV (dBin fIx (oN 0) (oV (dC (.int 0))))))) aNil))))
  (sRet (dFx (xFn fTuple (aO (oV (dFz (lLc [3] (iSeq (dVar 2)) (gN 3) ((dCall (D_is_sure) (aV (dVar 0) (aV (dVar 3) aNil))).bind asB) (dVar 3)))) aNil)))))))
def D_write_keeper : M PyData := fnOf 3 7 (sSeq (sDrop (dCall (D_need_world) (aV (dVar 0) aNil)))
  (sSeq (sDrop (dCall (D_need_letters) (aV (dVar 1) aNil)))
  (sSeq (sDrop (dCall (D_need_keeper) (aV (dVar 0) (aV (dVar 1) (aV (dVar 2) aNil)))))
  (sSeq (sSetX 3 (xL (lLst aNil)))
  (sSeq (sFor (aBind (aV (dBin fIx (oN 2) (oV (dC (.int 0)))) (aV (dBin fIx (oN 2) (oV (dC (.int 1)))) aNil)) iZip) (gT (gLen 2 (gsC (gN 4) (gsC (gN 5) gsN)))) .st)
  .st)))))
def D_words_of : M PyData := fnOf 1 4 (sSeq (sSetX 1 (xL (lLst (aV (dBin fIx (oN 0) (oV (dC (.int 0)))) aNil))))
  (sSeq (sFor (iSeq (dFx (xSl (oN 0) (pAt (dC (.int 1))) pNo))) (gN 2) (sIf ((dIsi "tuple" (oN 2)).bind asB) (sAug true 1 gAdd (dFz (lLc [3] (iSeq (dVar 2)) (gN 3) tYesD (dBin fIx (oV (dC con_NAMES)) (oN 3))))) (sDrop (mOwn 1 fAppend (aV (dFx (xIf ((dBin fEq (oV (dFx (xFn fLen (aO (oN 1) aNil)))) (oV (dC (.int 1)))).bind asB) (xV (dBin fIx (oV (dC con_NAMES)) (oN 2))) (xFn fToStr (aO (oN 2) aNil)))) aNil)))))
  (sRet (dVar 1))))
def D_write_tale : M PyData := fnOf 3 4 (sSeq (sDrop (dCall (D_need_world) (aV (dVar 0) aNil)))
  (sSeq (sDrop (dCall (D_need_letters) (aV (dVar 1) aNil)))
  (sSeq (sDrop (dCall (D_need_edits) (aV (dVar 0) (aV (dVar 1) (aV (dVar 2) aNil)))))
  .st)))
def hd__law_error : M Fl := (sSeq (sSetX 3 (xL (lLst (aV (dIsx 2 cs_all kf_BadAsk) (aV (dIsx 2 cs_all kf_BadWorld) (aV (dIsx 2 cs_all kf_BadNumber) aNil))))))
  (sSeq (sSetX 3 (xBin fAdd (oN 3) (oV (dFz (lLst (aV (dIsx 2 cs_all kf_BadQuestion) (aV (dIsx 2 cs_all kf_BadEdits) aNil)))))))
  (sSeq (sSetX 3 (xBin fAdd (oN 3) (oV (dFz (lLst (aV (dIsx 2 cs_all kf_BadKeeper) aNil))))))
  (sSeq (sSetX 3 (xBin fAdd (oN 3) (oV (dFz (lLst (aV (dIsx 2 cs_all kf_BadMessages) (aV (dIsx 2 cs_all kf_BadString) aNil)))))))
  (sSeq (sSetX 3 (xBin fAdd (oN 3) (oV (dFz (lLst (aV (dIsx 2 cs_all kf_BadText) aNil))))))
  (sSeq (sSetX 3 (xBin fAdd (oN 3) (oV (dFz (lLst (aV (dIsx 2 cs_all kf_NoKeeper) (aV (dIsx 2 cs_all kf_Answerable) aNil)))))))
  (sSetX 1 (xV (dIf (dtAnd ((dBin fEq (oV (mValT "list" fCount (oN 3) (aO (oV (dC (.bool true))) aNil))) (oV (dC (.int 1)))).bind asB) ((dIsx 2 cs_all kf_ValueError).bind asB)) (mValT "list" fIndex (oN 3) (aO (oV (dC (.bool true))) aNil)) (dC (.str "other")))))))))))
def pst__law_error : M Fl := (sRet (dVar 1))
def D_law : M PyData := fnOf 1 8 (sSeq (sSetX 1 (xL (lLst (aV (dVar 0) (aV (dC (.int 0)) (aV (dC (.int 11210)) (aV (dC (.int 0)) aNil)))))))
  (sSeq (sPar [2, 3] (axCons (xV (dCall (D__law_pick) (aIo 1 (aV (dFz (lLst (aV (dC .none) (aV (dC (.int 0)) (aV (dC (.int 4)) (aV (dC (.bool true)) (aV (dC (.str "1")) aNil))))))) aNil)))) (axCons (xV (dTup (aV (dC (.int 2)) (aV (dTup (aV (dTup (aV (dC (.int 0)) (aV (dC (.int 0)) aNil))) aNil)) (aV (dTup (aV (dC (.int 0)) aNil)) aNil))))) axNil)))
  (sSeq (sSetX 4 (xV (dCall (D__law_pick) (aIo 1 (aV (dFz (lLst (aV (dC .none) (aV (dTup (aV (dC (.int 2)) aNil)) (aV (dTup (aV (dC (.int 0)) (aV (dTup aNil) (aV (dTup aNil) aNil)))) (aV (dTup (aV (dC (.int 2)) (aV (dTup (aV (dTup (aV (dC (.int 0)) aNil)) aNil)) (aV (dTup (aV (dC (.int 0)) aNil)) aNil)))) (aV (dTup (aV (dC (.int 2)) (aV (dTup (aV (dTup (aV (dC (.int 0)) (aV (dC (.int 0)) aNil))) aNil)) (aV (dTup (aV (dC (.int 4)) aNil)) aNil)))) (aV (dTup (aV (dC (.int 2)) (aV (dTup (aV (dTup (aV (dC (.int 0)) (aV (dC (.int 1)) aNil))) aNil)) (aV (dTup (aV (dC (.int 0)) aNil)) aNil)))) aNil)))))))) aNil)))))
  (sSeq (sSetX 5 (xV (dCall (D__law_pick) (aIo 1 (aV (dFz (lLst (aV (dC .none) (aV (dTup aNil) (aV (dTup (aV (dC (.int 1)) aNil)) (aV (dTup (aV (dC (.int 1)) (aV (dC (.int 2)) (aV (dC (.int 3)) aNil)))) (aV (dTup (aV (dC (.int 1)) (aV (dC (.int 21)) aNil))) (aV (dTup (aV (dNeg (dC (.int 1))) (aV (dC (.int 0)) aNil))) (aV (dTup (aV (dC (.bool true)) (aV (dC (.int 0)) aNil))) (aV (dFz (lLst (aV (dC (.int 1)) (aV (dC (.int 1)) aNil)))) aNil)))))))))) aNil)))))
  (sSeq (sSetX 6 (xL (lLst (aV (dTold 4 2 cs_all (fun _ => (unN 4).set 1 (.v .none)) hd__law_error pst__law_error (dCall (D_arrangements) (aV (dVar 4) (aV (dVar 5) aNil)))) (aV (dTold 4 2 cs_all (fun _ => (unN 4).set 1 (.v .none)) hd__law_error pst__law_error (dCall (D_possible) (aV (dVar 3) (aV (dVar 5) aNil)))) aNil)))))
  (sSeq (sSetX 6 (xBin fAdd (oN 6) (oV (dFz (lLst (aV (dTold 4 2 cs_all (fun _ => (unN 4).set 1 (.v .none)) hd__law_error pst__law_error (dCall (D_is_sure) (aV (dVar 3) (aV (dVar 5) aNil)))) aNil))))))
  (sSeq (sSetX 6 (xBin fAdd (oN 6) (oV (dFz (lLst (aV (dTold 4 2 cs_all (fun _ => (unN 4).set 1 (.v .none)) hd__law_error pst__law_error (dCall (D_sure_counts) (aV (dVar 4) (aV (dC .none) aNil)))) aNil))))))
  (sSeq (sSetX 6 (xBin fAdd (oN 6) (oV (dFz (lLst (aV (dTold 4 2 cs_all (fun _ => (unN 4).set 1 (.v .none)) hd__law_error pst__law_error (dCall (D_sure_counts) (aV (dVar 3) (aV (dCall (D__law_pick) (aIo 1 (aV (dFz (lLst (aV (dC .none) (aV (dNeg (dC (.int 1))) (aV (dC (.int 6)) (aV (dC (.bool true)) aNil)))))) aNil))) aNil)))) aNil))))))
  (sSeq (sSetX 7 (xV (dTup (aV (dC (.int 2)) (aV (dTup (aV (dTup (aV (dC (.int 0)) (aV (dC (.int 1)) aNil))) (aV (dTup (aV (dC (.int 0)) (aV (dC (.int 1)) aNil))) aNil))) (aV (dTup (aV (dC (.int 0)) (aV (dC (.int 1)) aNil))) aNil))))))
  (sSeq (sSetX 6 (xBin fAdd (oN 6) (oV (dFz (lLst (aV (dTold 4 2 cs_all (fun _ => (unN 4).set 1 (.v .none)) hd__law_error pst__law_error (dCall (D_write_tale) (aV (dC (.str "cut")) (aV (dC .none) (aV (dC .none) aNil))))) aNil))))))
  (sSeq (sSetX 6 (xBin fAdd (oN 6) (oV (dFz (lLst (aV (dTold 4 2 cs_all (fun _ => (unN 4).set 1 (.v .none)) hd__law_error pst__law_error (dCall (D_write_tale) (aV (dC (.str "end")) (aV (dVar 2) (aV (dC .none) aNil))))) aNil))))))
  (sSeq (sSetX 6 (xBin fAdd (oN 6) (oV (dFz (lLst (aV (dTold 4 2 cs_all (fun _ => (unN 4).set 1 (.v .none)) hd__law_error pst__law_error (dCall (D_write_tale) (aV (dC (.str "end")) (aV (dC (.int 2)) (aV (dC .none) aNil))))) aNil))))))
  (sSeq (sSetX 6 (xBin fAdd (oN 6) (oV (dFz (lLst (aV (dTold 4 2 cs_all (fun _ => (unN 4).set 1 (.v .none)) hd__law_error pst__law_error (dCall (D_read_tale) (aV (dC (.str "end")) (aV (dVar 2) (aV (dC .none) aNil))))) aNil))))))
  (sSeq (sSetX 6 (xBin fAdd (oN 6) (oV (dFz (lLst (aV (dTold 4 2 cs_all (fun _ => (unN 4).set 1 (.v .none)) hd__law_error pst__law_error (dCall (D_read_tale) (aV (dC (.str "end")) (aV (dC (.int 2)) (aV (dC .none) aNil))))) aNil))))))
  (sSeq (sSetX 6 (xBin fAdd (oN 6) (oV (dFz (lLst (aV (dTold 4 2 cs_all (fun _ => (unN 4).set 1 (.v .none)) hd__law_error pst__law_error (dCall (D_tale) (aV (dC (.str "cut")) (aV (dC .none) (aV (dC .none) aNil))))) aNil))))))
  (sSeq (sSetX 6 (xBin fAdd (oN 6) (oV (dFz (lLst (aV (dTold 4 2 cs_all (fun _ => (unN 4).set 1 (.v .none)) hd__law_error pst__law_error (dCall (D_tale) (aV (dC (.str "in")) (aV (dVar 4) (aV (dC .none) aNil))))) aNil))))))
  (sSeq (sSetX 6 (xBin fAdd (oN 6) (oV (dFz (lLst (aV (dTold 4 2 cs_all (fun _ => (unN 4).set 1 (.v .none)) hd__law_error pst__law_error (dCall (D_tale) (aV (dC (.str "in")) (aV (dVar 7) (aV (dC .none) aNil))))) aNil))))))
  (sSeq (sSetX 6 (xBin fAdd (oN 6) (oV (dFz (lLst (aV (dTold 4 2 cs_all (fun _ => (unN 4).set 1 (.v .none)) hd__law_error pst__law_error (dCall (D_tale) (aV (dC (.str "in")) (aV (dVar 7) (aV (dTup aNil) aNil))))) aNil))))))
  (sSeq (sSetX 6 (xBin fAdd (oN 6) (oV (dFz (lLst (aV (dTold 4 2 cs_all (fun _ => (unN 4).set 1 (.v .none)) hd__law_error pst__law_error (dCall (D_is_kept_true) (aV (dC (.str "in")) (aV (dVar 7) (aV (dTup aNil) aNil))))) aNil))))))
  (sSeq (sSetX 6 (xBin fAdd (oN 6) (oV (dFz (lLst (aV (dTold 4 2 cs_all (fun _ => (unN 4).set 1 (.v .none)) hd__law_error pst__law_error (dCall (D_write_keeper) (aV (dC (.str "end")) (aV (dC (.int 2)) (aV (dC .none) aNil))))) aNil))))))
  (sSeq (sSetX 6 (xBin fAdd (oN 6) (oV (dFz (lLst (aV (dTold 4 2 cs_all (fun _ => (unN 4).set 1 (.v .none)) hd__law_error pst__law_error (dCall (D_read_keeper) (aV (dC (.str "end")) (aV (dC (.int 2)) (aV (dC .none) aNil))))) aNil))))))
  (sRet (dBin fEq (oN 6) (oV (dFz (lLst (aV (dC (.int 3)) (aV (dC (.int 2)) (aV (dC (.int 2)) (aV (dC (.int 3)) (aV (dC (.int 2)) (aV (dC (.int 1)) (aV (dC (.int 2)) (aV (dC (.int 4)) (aV (dC (.int 2)) (aV (dC (.int 7)) (aV (dC (.int 1)) (aV (dC (.int 3)) (aV (dC (.int 4)) (aV (dC (.int 9)) (aV (dC (.int 9)) (aV (dC (.int 5)) (aV (dC (.int 7)) aNil)))))))))))))))))))))))))))))))))))))))))))
end K70

end
section
/-! printed by pr.py: that the defs compute that -/
namespace K70
open PySem PySem.Spec PyProof.Rows L2 TW
structure Gd where
  f__law_error : Addr
  d__law_error : FuncData
  f__law_taken : Addr
  d__law_taken : FuncData
  f__law_pick : Addr
  d__law_pick : FuncData
  f_parted : Addr
  d_parted : FuncData
  f_shrunk : Addr
  d_shrunk : FuncData
  f_least_of : Addr
  d_least_of : FuncData
  f_is_number : Addr
  d_is_number : FuncData
  f_need_counts : Addr
  d_need_counts : FuncData
  f_are_steps : Addr
  d_are_steps : FuncData
  f_need_question : Addr
  d_need_question : FuncData
  f_all_below : Addr
  d_all_below : FuncData
  f_ways_to : Addr
  d_ways_to : FuncData
  f_arrangements : Addr
  d_arrangements : FuncData
  f_led : Addr
  d_led : FuncData
  f_letter_maps : Addr
  d_letter_maps : FuncData
  f_are_one_to_one : Addr
  d_are_one_to_one : FuncData
  f_then : Addr
  d_then : FuncData
  f_do_commute : Addr
  d_do_commute : FuncData
  f_can : Addr
  d_can : FuncData
  f_done : Addr
  d_done : FuncData
  f_orders : Addr
  d_orders : FuncData
  f_all_messages : Addr
  d_all_messages : FuncData
  f_memories : Addr
  d_memories : FuncData
  f_message_of : Addr
  d_message_of : FuncData
  f_is_like : Addr
  d_is_like : FuncData
  f_is_edit : Addr
  d_is_edit : FuncData
  f_first_wrong_edit : Addr
  d_first_wrong_edit : FuncData
  f_need_edits : Addr
  d_need_edits : FuncData
  f_need_world : Addr
  d_need_world : FuncData
  f_made : Addr
  d_made : FuncData
  f_right_keeper : Addr
  d_right_keeper : FuncData
  f_tale : Addr
  d_tale : FuncData
  f_is_kept_true : Addr
  d_is_kept_true : FuncData
  f_is_sure : Addr
  d_is_sure : FuncData
  f_possible : Addr
  d_possible : FuncData
  f_figure_of : Addr
  d_figure_of : FuncData
  f_need_keeper : Addr
  d_need_keeper : FuncData
  f_need_letters : Addr
  d_need_letters : FuncData
  f_read_keeper : Addr
  d_read_keeper : FuncData
  f_letter_of : Addr
  d_letter_of : FuncData
  f_place_of : Addr
  d_place_of : FuncData
  f_edit_of : Addr
  d_edit_of : FuncData
  f_read_tale : Addr
  d_read_tale : FuncData
  f_sure_counts : Addr
  d_sure_counts : FuncData
  f_write_keeper : Addr
  d_write_keeper : FuncData
  f_words_of : Addr
  d_words_of : FuncData
  f_write_tale : Addr
  d_write_tale : FuncData
  f_law : Addr
  d_law : FuncData
  c_are_steps : Addr
  p_are_steps : Addr
  c_need_question : Addr
  p_need_question : Addr
  c_are_one_to_one : Addr
  p_are_one_to_one : Addr
  c_do_commute : Addr
  p_do_commute : Addr
  c_is_like : Addr
  p_is_like : Addr
  c_is_edit : Addr
  p_is_edit : Addr
  c_need_keeper : Addr
  p_need_keeper : Addr
  c_law : Addr
  p_law : Addr
  C_BadEdits : Addr
  C_BadKeeper : Addr
  C_BadNumber : Addr
  C_BadQuestion : Addr
  C_BadString : Addr
  C_BadWorld : Addr
  C_NoKeeper : Addr
  C_KeeperError : Addr
  C_BadAsk : Addr
  C_BadMessages : Addr
  C_BadText : Addr
  C_Answerable : Addr
  I_BadEdits : Addr
  dI_BadEdits : FuncData
  I_BadKeeper : Addr
  dI_BadKeeper : FuncData
  I_BadQuestion : Addr
  dI_BadQuestion : FuncData
def lq_law : Str := (("law" : Str) ++ (".<locals>." : Str)) ++ ("<lambda>" : Str)
def Gd.tg (g : Gd) : List TbK := [⟨g.p_are_steps, none⟩, ⟨g.p_need_question, none⟩, ⟨g.p_are_one_to_one, none⟩, ⟨g.p_do_commute, none⟩, ⟨g.p_is_like, none⟩, ⟨g.p_is_edit, none⟩, ⟨g.p_need_keeper, none⟩, ⟨g.p_law, some lq_law⟩]
structure GOk (K : PySem.W.Frag) (mg : Str → Option Value) (base : Heap) (w : World) (g : Gd) : Prop where
  F__law_error : FunD K "_law_error" "_law_error" (defArgs (top 84)) (defBody (top 84)) (defScope (top 84)) [] [] g.f__law_error g.d__law_error
  m__law_error : mg "_law_error" = some (.ref g.f__law_error)
  F__law_taken : FunD K "_law_taken" "_law_taken" (defArgs (top 82)) (defBody (top 82)) (defScope (top 82)) [] [] g.f__law_taken g.d__law_taken
  m__law_taken : mg "_law_taken" = some (.ref g.f__law_taken)
  F__law_pick : FunD K "_law_pick" "_law_pick" (defArgs (top 83)) (defBody (top 83)) (defScope (top 83)) [] [] g.f__law_pick g.d__law_pick
  m__law_pick : mg "_law_pick" = some (.ref g.f__law_pick)
  F_parted : FunD K "parted" "parted" (defArgs (top 24)) (defBody (top 24)) (defScope (top 24)) [] [] g.f_parted g.d_parted
  m_parted : mg "parted" = some (.ref g.f_parted)
  F_shrunk : FunD K "shrunk" "shrunk" (defArgs (top 25)) (defBody (top 25)) (defScope (top 25)) [] [] g.f_shrunk g.d_shrunk
  m_shrunk : mg "shrunk" = some (.ref g.f_shrunk)
  F_least_of : FunD K "least_of" "least_of" (defArgs (top 26)) (defBody (top 26)) (defScope (top 26)) [] [] g.f_least_of g.d_least_of
  m_least_of : mg "least_of" = some (.ref g.f_least_of)
  F_is_number : FunD K "is_number" "is_number" (defArgs (top 20)) (defBody (top 20)) (defScope (top 20)) [] [] g.f_is_number g.d_is_number
  m_is_number : mg "is_number" = some (.ref g.f_is_number)
  F_need_counts : FunD K "need_counts" "need_counts" (defArgs (top 31)) (defBody (top 31)) (defScope (top 31)) [] [] g.f_need_counts g.d_need_counts
  m_need_counts : mg "need_counts" = some (.ref g.f_need_counts)
  F_are_steps : FunD K "are_steps" "are_steps" (defArgs (top 21)) (defBody (top 21)) (defScope (top 21)) [] [] g.f_are_steps g.d_are_steps
  m_are_steps : mg "are_steps" = some (.ref g.f_are_steps)
  F_need_question : FunD K "need_question" "need_question" (defArgs (top 22)) (defBody (top 22)) (defScope (top 22)) [] [] g.f_need_question g.d_need_question
  m_need_question : mg "need_question" = some (.ref g.f_need_question)
  F_all_below : FunD K "all_below" "all_below" (defArgs (top 32)) (defBody (top 32)) (defScope (top 32)) [] [] g.f_all_below g.d_all_below
  m_all_below : mg "all_below" = some (.ref g.f_all_below)
  F_ways_to : FunD K "ways_to" "ways_to" (defArgs (top 33)) (defBody (top 33)) (defScope (top 33)) [] [] g.f_ways_to g.d_ways_to
  m_ways_to : mg "ways_to" = some (.ref g.f_ways_to)
  F_arrangements : FunD K "arrangements" "arrangements" (defArgs (top 34)) (defBody (top 34)) (defScope (top 34)) [] [] g.f_arrangements g.d_arrangements
  m_arrangements : mg "arrangements" = some (.ref g.f_arrangements)
  F_led : FunD K "led" "led" (defArgs (top 23)) (defBody (top 23)) (defScope (top 23)) [] [] g.f_led g.d_led
  m_led : mg "led" = some (.ref g.f_led)
  F_letter_maps : FunD K "letter_maps" "letter_maps" (defArgs (top 28)) (defBody (top 28)) (defScope (top 28)) [] [] g.f_letter_maps g.d_letter_maps
  m_letter_maps : mg "letter_maps" = some (.ref g.f_letter_maps)
  F_are_one_to_one : FunD K "are_one_to_one" "are_one_to_one" (defArgs (top 57)) (defBody (top 57)) (defScope (top 57)) [] [] g.f_are_one_to_one g.d_are_one_to_one
  m_are_one_to_one : mg "are_one_to_one" = some (.ref g.f_are_one_to_one)
  F_then : FunD K "then" "then" (defArgs (top 27)) (defBody (top 27)) (defScope (top 27)) [] [] g.f_then g.d_then
  m_then : mg "then" = some (.ref g.f_then)
  F_do_commute : FunD K "do_commute" "do_commute" (defArgs (top 58)) (defBody (top 58)) (defScope (top 58)) [] [] g.f_do_commute g.d_do_commute
  m_do_commute : mg "do_commute" = some (.ref g.f_do_commute)
  F_can : FunD K "can" "can" (defArgs (top 59)) (defBody (top 59)) (defScope (top 59)) [] [] g.f_can g.d_can
  m_can : mg "can" = some (.ref g.f_can)
  F_done : FunD K "done" "done" (defArgs (top 50)) (defBody (top 50)) (defScope (top 50)) [] [] g.f_done g.d_done
  m_done : mg "done" = some (.ref g.f_done)
  F_orders : FunD K "orders" "orders" (defArgs (top 44)) (defBody (top 44)) (defScope (top 44)) [] [] g.f_orders g.d_orders
  m_orders : mg "orders" = some (.ref g.f_orders)
  F_all_messages : FunD K "all_messages" "all_messages" (defArgs (top 45)) (defBody (top 45)) (defScope (top 45)) [] [] g.f_all_messages g.d_all_messages
  m_all_messages : mg "all_messages" = some (.ref g.f_all_messages)
  F_memories : FunD K "memories" "memories" (defArgs (top 65)) (defBody (top 65)) (defScope (top 65)) [] [] g.f_memories g.d_memories
  m_memories : mg "memories" = some (.ref g.f_memories)
  F_message_of : FunD K "message_of" "message_of" (defArgs (top 46)) (defBody (top 46)) (defScope (top 46)) [] [] g.f_message_of g.d_message_of
  m_message_of : mg "message_of" = some (.ref g.f_message_of)
  F_is_like : FunD K "is_like" "is_like" (defArgs (top 48)) (defBody (top 48)) (defScope (top 48)) [] [] g.f_is_like g.d_is_like
  m_is_like : mg "is_like" = some (.ref g.f_is_like)
  F_is_edit : FunD K "is_edit" "is_edit" (defArgs (top 49)) (defBody (top 49)) (defScope (top 49)) [] [] g.f_is_edit g.d_is_edit
  m_is_edit : mg "is_edit" = some (.ref g.f_is_edit)
  F_first_wrong_edit : FunD K "first_wrong_edit" "first_wrong_edit" (defArgs (top 51)) (defBody (top 51)) (defScope (top 51)) [] [] g.f_first_wrong_edit g.d_first_wrong_edit
  m_first_wrong_edit : mg "first_wrong_edit" = some (.ref g.f_first_wrong_edit)
  F_need_edits : FunD K "need_edits" "need_edits" (defArgs (top 52)) (defBody (top 52)) (defScope (top 52)) [] [] g.f_need_edits g.d_need_edits
  m_need_edits : mg "need_edits" = some (.ref g.f_need_edits)
  F_need_world : FunD K "need_world" "need_world" (defArgs (top 43)) (defBody (top 43)) (defScope (top 43)) [] [] g.f_need_world g.d_need_world
  m_need_world : mg "need_world" = some (.ref g.f_need_world)
  F_made : FunD K "made" "made" (defArgs (top 62)) (defBody (top 62)) (defScope (top 62)) [] [] g.f_made g.d_made
  m_made : mg "made" = some (.ref g.f_made)
  F_right_keeper : FunD K "right_keeper" "right_keeper" (defArgs (top 63)) (defBody (top 63)) (defScope (top 63)) [] [] g.f_right_keeper g.d_right_keeper
  m_right_keeper : mg "right_keeper" = some (.ref g.f_right_keeper)
  F_tale : FunD K "tale" "tale" (defArgs (top 76)) (defBody (top 76)) (defScope (top 76)) [] [] g.f_tale g.d_tale
  m_tale : mg "tale" = some (.ref g.f_tale)
  F_is_kept_true : FunD K "is_kept_true" "is_kept_true" (defArgs (top 77)) (defBody (top 77)) (defScope (top 77)) [] [] g.f_is_kept_true g.d_is_kept_true
  m_is_kept_true : mg "is_kept_true" = some (.ref g.f_is_kept_true)
  F_is_sure : FunD K "is_sure" "is_sure" (defArgs (top 36)) (defBody (top 36)) (defScope (top 36)) [] [] g.f_is_sure g.d_is_sure
  m_is_sure : mg "is_sure" = some (.ref g.f_is_sure)
  F_possible : FunD K "possible" "possible" (defArgs (top 35)) (defBody (top 35)) (defScope (top 35)) [] [] g.f_possible g.d_possible
  m_possible : mg "possible" = some (.ref g.f_possible)
  F_figure_of : FunD K "figure_of" "figure_of" (defArgs (top 79)) (defBody (top 79)) (defScope (top 79)) [] [] g.f_figure_of g.d_figure_of
  m_figure_of : mg "figure_of" = some (.ref g.f_figure_of)
  F_need_keeper : FunD K "need_keeper" "need_keeper" (defArgs (top 64)) (defBody (top 64)) (defScope (top 64)) [] [] g.f_need_keeper g.d_need_keeper
  m_need_keeper : mg "need_keeper" = some (.ref g.f_need_keeper)
  F_need_letters : FunD K "need_letters" "need_letters" (defArgs (top 47)) (defBody (top 47)) (defScope (top 47)) [] [] g.f_need_letters g.d_need_letters
  m_need_letters : mg "need_letters" = some (.ref g.f_need_letters)
  F_read_keeper : FunD K "read_keeper" "read_keeper" (defArgs (top 80)) (defBody (top 80)) (defScope (top 80)) [] [] g.f_read_keeper g.d_read_keeper
  m_read_keeper : mg "read_keeper" = some (.ref g.f_read_keeper)
  F_letter_of : FunD K "letter_of" "letter_of" (defArgs (top 72)) (defBody (top 72)) (defScope (top 72)) [] [] g.f_letter_of g.d_letter_of
  m_letter_of : mg "letter_of" = some (.ref g.f_letter_of)
  F_place_of : FunD K "place_of" "place_of" (defArgs (top 73)) (defBody (top 73)) (defScope (top 73)) [] [] g.f_place_of g.d_place_of
  m_place_of : mg "place_of" = some (.ref g.f_place_of)
  F_edit_of : FunD K "edit_of" "edit_of" (defArgs (top 74)) (defBody (top 74)) (defScope (top 74)) [] [] g.f_edit_of g.d_edit_of
  m_edit_of : mg "edit_of" = some (.ref g.f_edit_of)
  F_read_tale : FunD K "read_tale" "read_tale" (defArgs (top 75)) (defBody (top 75)) (defScope (top 75)) [] [] g.f_read_tale g.d_read_tale
  m_read_tale : mg "read_tale" = some (.ref g.f_read_tale)
  F_sure_counts : FunD K "sure_counts" "sure_counts" (defArgs (top 37)) (defBody (top 37)) (defScope (top 37)) [] [] g.f_sure_counts g.d_sure_counts
  m_sure_counts : mg "sure_counts" = some (.ref g.f_sure_counts)
  F_write_keeper : FunD K "write_keeper" "write_keeper" (defArgs (top 78)) (defBody (top 78)) (defScope (top 78)) [] [] g.f_write_keeper g.d_write_keeper
  m_write_keeper : mg "write_keeper" = some (.ref g.f_write_keeper)
  F_words_of : FunD K "words_of" "words_of" (defArgs (top 70)) (defBody (top 70)) (defScope (top 70)) [] [] g.f_words_of g.d_words_of
  m_words_of : mg "words_of" = some (.ref g.f_words_of)
  F_write_tale : FunD K "write_tale" "write_tale" (defArgs (top 71)) (defBody (top 71)) (defScope (top 71)) [] [] g.f_write_tale g.d_write_tale
  m_write_tale : mg "write_tale" = some (.ref g.f_write_tale)
  F_law : FunD K "law" "law" (defArgs (top 85)) (defBody (top 85)) (defScope (top 85)) [] [] g.f_law g.d_law
  m_law : mg "law" = some (.ref g.f_law)
  k_are_steps : g.d_are_steps.code = .ref g.c_are_steps
  t_are_steps : GxR.TabB base mg g.c_are_steps g.p_are_steps
  k_need_question : g.d_need_question.code = .ref g.c_need_question
  t_need_question : GxR.TabB base mg g.c_need_question g.p_need_question
  k_are_one_to_one : g.d_are_one_to_one.code = .ref g.c_are_one_to_one
  t_are_one_to_one : GxR.TabB base mg g.c_are_one_to_one g.p_are_one_to_one
  k_do_commute : g.d_do_commute.code = .ref g.c_do_commute
  t_do_commute : GxR.TabB base mg g.c_do_commute g.p_do_commute
  k_is_like : g.d_is_like.code = .ref g.c_is_like
  t_is_like : GxR.TabB base mg g.c_is_like g.p_is_like
  k_is_edit : g.d_is_edit.code = .ref g.c_is_edit
  t_is_edit : GxR.TabB base mg g.c_is_edit g.p_is_edit
  k_need_keeper : g.d_need_keeper.code = .ref g.c_need_keeper
  t_need_keeper : GxR.TabB base mg g.c_need_keeper g.p_need_keeper
  k_law : g.d_law.code = .ref g.c_law
  t_law : GxR.TabB base mg g.c_law g.p_law
  m_BadEdits : mg "BadEdits" = some (.ref g.C_BadEdits)
  m_BadKeeper : mg "BadKeeper" = some (.ref g.C_BadKeeper)
  m_BadNumber : mg "BadNumber" = some (.ref g.C_BadNumber)
  m_BadQuestion : mg "BadQuestion" = some (.ref g.C_BadQuestion)
  m_BadString : mg "BadString" = some (.ref g.C_BadString)
  m_BadWorld : mg "BadWorld" = some (.ref g.C_BadWorld)
  m_NoKeeper : mg "NoKeeper" = some (.ref g.C_NoKeeper)
  m_KeeperError : mg "KeeperError" = some (.ref g.C_KeeperError)
  m_BadAsk : mg "BadAsk" = some (.ref g.C_BadAsk)
  m_BadMessages : mg "BadMessages" = some (.ref g.C_BadMessages)
  m_BadText : mg "BadText" = some (.ref g.C_BadText)
  m_Answerable : mg "Answerable" = some (.ref g.C_Answerable)
  FI_BadEdits : FunD K "__init__" "BadEdits.__init__" (defArgs (cdef 5)) (defBody (cdef 5)) (defScope (cdef 5)) [] [] g.I_BadEdits g.dI_BadEdits
  x_BadEdits : XCls K mg "BadEdits" "index" g.C_BadEdits g.I_BadEdits
  FI_BadKeeper : FunD K "__init__" "BadKeeper.__init__" (defArgs (cdef 7)) (defBody (cdef 7)) (defScope (cdef 7)) [] [] g.I_BadKeeper g.dI_BadKeeper
  x_BadKeeper : XCls K mg "BadKeeper" "index" g.C_BadKeeper g.I_BadKeeper
  FI_BadQuestion : FunD K "__init__" "BadQuestion.__init__" (defArgs (cdef 2)) (defBody (cdef 2)) (defScope (cdef 2)) [] [] g.I_BadQuestion g.dI_BadQuestion
  x_BadQuestion : XCls K mg "BadQuestion" "part" g.C_BadQuestion g.I_BadQuestion
  x_BadNumber : XCls0 K mg "BadNumber" g.C_BadNumber
  x_BadString : XCls0 K mg "BadString" g.C_BadString
  x_BadWorld : XCls0 K mg "BadWorld" g.C_BadWorld
  x_NoKeeper : XCls0 K mg "NoKeeper" g.C_NoKeeper
  exm_KeeperError : XExm K cs_all (.ref g.C_KeeperError)
  kit_BadNumber : XKit K cs_all (.ref g.C_BadNumber) kf_BadNumber
  kit_BadWorld : XKit K cs_all (.ref g.C_BadWorld) kf_BadWorld
  kit_BadAsk : XKit K cs_all (.ref g.C_BadAsk) kf_BadAsk
  kit_BadEdits : XKit K cs_all (.ref g.C_BadEdits) kf_BadEdits
  kit_BadQuestion : XKit K cs_all (.ref g.C_BadQuestion) kf_BadQuestion
  kit_BadKeeper : XKit K cs_all (.ref g.C_BadKeeper) kf_BadKeeper
  kit_BadString : XKit K cs_all (.ref g.C_BadString) kf_BadString
  kit_BadMessages : XKit K cs_all (.ref g.C_BadMessages) kf_BadMessages
  kit_BadText : XKit K cs_all (.ref g.C_BadText) kf_BadText
  kit_Answerable : XKit K cs_all (.ref g.C_Answerable) kf_Answerable
  kit_NoKeeper : XKit K cs_all (.ref g.C_NoKeeper) kf_NoKeeper
  kit_ValueError : XKit K cs_all (.type "ValueError") kf_ValueError
  nd : (g.tg.map (·.P)).Nodup
  n_ValueError : mg "ValueError" = none
  n_all : mg "all" = none
  n_any : mg "any" = none
  n_bool : mg "bool" = none
  n_enumerate : mg "enumerate" = none
  n_int : mg "int" = none
  n_isinstance : mg "isinstance" = none
  n_len : mg "len" = none
  n_list : mg "list" = none
  n_range : mg "range" = none
  n_set : mg "set" = none
  n_sorted : mg "sorted" = none
  n_str : mg "str" = none
  n_sum : mg "sum" = none
  n_tuple : mg "tuple" = none
  n_zip : mg "zip" = none
  con_FIGURES : Con K mg "FIGURES" con_FIGURES
  con_HIDDEN : Con K mg "HIDDEN" con_HIDDEN
  con_KINDS_tales : Con K mg "KINDS_tales" con_KINDS_tales
  con_MOST_ANSWER : Con K mg "MOST_ANSWER" con_MOST_ANSWER
  con_MOST_COUNT : Con K mg "MOST_COUNT" con_MOST_COUNT
  con_MOST_EDITS : Con K mg "MOST_EDITS" con_MOST_EDITS
  con_MOST_KEEPER : Con K mg "MOST_KEEPER" con_MOST_KEEPER
  con_MOST_LETTERS : Con K mg "MOST_LETTERS" con_MOST_LETTERS
  con_MOST_STATES : Con K mg "MOST_STATES" con_MOST_STATES
  con_MOST_TEXT : Con K mg "MOST_TEXT" con_MOST_TEXT
  con_NAMES : Con K mg "NAMES" con_NAMES
  con_ONE_TO_ONE : Con K mg "ONE_TO_ONE" con_ONE_TO_ONE
  con_ORDERLESS : Con K mg "ORDERLESS" con_ORDERLESS
  con_WORLDS : Con K mg "WORLDS" con_WORLDS
  tab_KINDS_worlds : KTab K w mg "KINDS_worlds" tab_KINDS_worlds
section
variable {P : Program} {w : World} {K : PySem.W.Frag} {mg : Str → Option Value} {base : Heap} {g : Gd}
theorem ru1 {k : Nat} {A : Around} (r : Room k A) : A.units + 1 < cLine := by have := r.un; omega
theorem ru {k : Nat} {A : Around} (r : Room k A) : A.units + 65 < cLine := by have := r.un; omega
theorem tg_are_steps (h : GOk K mg base w g) : (⟨g.p_are_steps, none⟩ : TbK) ∈ g.tg ∧ ∀ z ∈ g.tg, z.P = g.p_are_steps → z.q = none := ⟨by simp [Gd.tg], fun z hz e => by
  have u := tb_uniq (y := ⟨g.p_are_steps, none⟩) h.nd hz (by simp [Gd.tg]) e
  rw [u]⟩
theorem tg_need_question (h : GOk K mg base w g) : (⟨g.p_need_question, none⟩ : TbK) ∈ g.tg ∧ ∀ z ∈ g.tg, z.P = g.p_need_question → z.q = none := ⟨by simp [Gd.tg], fun z hz e => by
  have u := tb_uniq (y := ⟨g.p_need_question, none⟩) h.nd hz (by simp [Gd.tg]) e
  rw [u]⟩
theorem tg_are_one_to_one (h : GOk K mg base w g) : (⟨g.p_are_one_to_one, none⟩ : TbK) ∈ g.tg ∧ ∀ z ∈ g.tg, z.P = g.p_are_one_to_one → z.q = none := ⟨by simp [Gd.tg], fun z hz e => by
  have u := tb_uniq (y := ⟨g.p_are_one_to_one, none⟩) h.nd hz (by simp [Gd.tg]) e
  rw [u]⟩
theorem tg_do_commute (h : GOk K mg base w g) : (⟨g.p_do_commute, none⟩ : TbK) ∈ g.tg ∧ ∀ z ∈ g.tg, z.P = g.p_do_commute → z.q = none := ⟨by simp [Gd.tg], fun z hz e => by
  have u := tb_uniq (y := ⟨g.p_do_commute, none⟩) h.nd hz (by simp [Gd.tg]) e
  rw [u]⟩
theorem tg_is_like (h : GOk K mg base w g) : (⟨g.p_is_like, none⟩ : TbK) ∈ g.tg ∧ ∀ z ∈ g.tg, z.P = g.p_is_like → z.q = none := ⟨by simp [Gd.tg], fun z hz e => by
  have u := tb_uniq (y := ⟨g.p_is_like, none⟩) h.nd hz (by simp [Gd.tg]) e
  rw [u]⟩
theorem tg_is_edit (h : GOk K mg base w g) : (⟨g.p_is_edit, none⟩ : TbK) ∈ g.tg ∧ ∀ z ∈ g.tg, z.P = g.p_is_edit → z.q = none := ⟨by simp [Gd.tg], fun z hz e => by
  have u := tb_uniq (y := ⟨g.p_is_edit, none⟩) h.nd hz (by simp [Gd.tg]) e
  rw [u]⟩
theorem tg_need_keeper (h : GOk K mg base w g) : (⟨g.p_need_keeper, none⟩ : TbK) ∈ g.tg ∧ ∀ z ∈ g.tg, z.P = g.p_need_keeper → z.q = none := ⟨by simp [Gd.tg], fun z hz e => by
  have u := tb_uniq (y := ⟨g.p_need_keeper, none⟩) h.nd hz (by simp [Gd.tg]) e
  rw [u]⟩
theorem tg_law (h : GOk K mg base w g) : (⟨g.p_law, some lq_law⟩ : TbK) ∈ g.tg ∧ ∀ z ∈ g.tg, z.P = g.p_law → z.q = some lq_law := ⟨by simp [Gd.tg], fun z hz e => by
  have u := tb_uniq (y := ⟨g.p_law, some lq_law⟩) h.nd hz (by simp [Gd.tg]) e
  rw [u]⟩
theorem bi_init_BadEdits (h : GOk K mg base w g) : Binds K g.dI_BadEdits ["self", "index"] [] := h.FI_BadEdits.bindsN fun _ _ _ _ _ _ us hl => match us, hl with | [_, _], _ => rfl
theorem ok_init_BadEdits (h : GOk K mg base w g) : FnOk P w K mg base (L2.CX P w) 1 g.I_BadEdits g.dI_BadEdits ["self", "index"] (spInit K "index") := init_ok (k := 0) h.FI_BadEdits ⟨rfl, rfl, rfl, by decide +kernel, rfl, by decide +kernel, by decide +kernel⟩ (by first | exact .inl rfl | exact .inr (.inl rfl)) (by first | exact .inl rfl | exact .inr (.inl rfl))
theorem bi_init_BadKeeper (h : GOk K mg base w g) : Binds K g.dI_BadKeeper ["self", "index"] [] := h.FI_BadKeeper.bindsN fun _ _ _ _ _ _ us hl => match us, hl with | [_, _], _ => rfl
theorem ok_init_BadKeeper (h : GOk K mg base w g) : FnOk P w K mg base (L2.CX P w) 1 g.I_BadKeeper g.dI_BadKeeper ["self", "index"] (spInit K "index") := init_ok (k := 0) h.FI_BadKeeper ⟨rfl, rfl, rfl, by decide +kernel, rfl, by decide +kernel, by decide +kernel⟩ (by first | exact .inl rfl | exact .inr (.inl rfl)) (by first | exact .inl rfl | exact .inr (.inl rfl))
theorem bi_init_BadQuestion (h : GOk K mg base w g) : Binds K g.dI_BadQuestion ["self", "part"] [] := h.FI_BadQuestion.bindsN fun _ _ _ _ _ _ us hl => match us, hl with | [_, _], _ => rfl
theorem ok_init_BadQuestion (h : GOk K mg base w g) : FnOk P w K mg base (L2.CX P w) 1 g.I_BadQuestion g.dI_BadQuestion ["self", "part"] (spInit K "part") := init_ok (k := 0) h.FI_BadQuestion ⟨rfl, rfl, rfl, by decide +kernel, rfl, by decide +kernel, by decide +kernel⟩ (by first | exact .inl rfl | exact .inr (.inl rfl)) (by first | exact .inl rfl | exact .inr (.inl rfl))
def hdT : List Stmt → List Stmt
  | .Try _ [.ExceptHandler _ _ b _] _ _ _ :: _ => b
  | _ :: .Try _ [.ExceptHandler _ _ b _] _ _ _ :: _ => b
  | _ => []
def rsT : List Stmt → List Stmt
  | .Try _ _ _ _ _ :: r => r
  | _ :: .Try _ _ _ _ _ :: r => r
  | _ => []
theorem nd__law_error : (["_law_work", "_law_found", "error", "_law_known"] : List Str).Nodup := by decide +kernel
theorem sc__law_error : FnScope ["_law_work", "_law_found", "error", "_law_known"] ["_law_work"] (defScope (top 84)) := ⟨rfl, rfl, rfl, nd__law_error, rfl, by decide +kernel, by decide +kernel⟩
theorem bi__law_error (h : GOk K mg base w g) : Binds K g.d__law_error ["_law_work"] [] := h.F__law_error.bindsN fun _ _ _ _ _ _ us hl => match us, hl with | [_], _ => rfl
theorem len__law_error (sl : List Sl) (e : sl.length ≠ 1) : D__law_error sl = .st := fnOf_len _ e
theorem ok__law_error (h : GOk K mg base w g) : FnOk P w K mg base (L2.CX P w) 1 g.f__law_error g.d__law_error ["_law_work"] (SpOf K (tgOf w g.tg) 1 D__law_error) :=
  def_ok (k := 0) (h.F__law_error) sc__law_error rfl rfl fun cdv A outer s H E hr => (dss_cons (ds_setN (i := 1) nd__law_error (by rfl) (by first | exact .inl rfl | exact .inr rfl) (dx_v de_non) (by rfl) (by first | exact .inl rfl | exact .inr rfl))
  (dss_cons (ds_try (i := 2) rfl rfl nd__law_error (by rfl) (by rfl) ⟨by rfl, by decide, .inl h.m_KeeperError⟩ (takes_def (CXx := L2.CX P w)) h.exm_KeeperError (fun W1 pn xe t1 t2 => dss_never) (fun b oe cls d pn hzT hflT => (dss_cons (ds_setN (i := 3) nd__law_error (by rfl) (by first | exact .inl rfl | exact .inr rfl) (dx_l (dl_lst (da_cons (de_isx h.kit_BadAsk hzT hflT (by rfl) (by first | exact .inl rfl | exact .inr (.inl rfl) | exact .inr (.inr rfl)) (by rfl) h.n_isinstance (by rfl) h.m_BadAsk) (da_cons (de_isx h.kit_BadWorld hzT hflT (by rfl) (by first | exact .inl rfl | exact .inr (.inl rfl) | exact .inr (.inr rfl)) (by rfl) h.n_isinstance (by rfl) h.m_BadWorld) (da_cons (de_isx h.kit_BadNumber hzT hflT (by rfl) (by first | exact .inl rfl | exact .inr (.inl rfl) | exact .inr (.inr rfl)) (by rfl) h.n_isinstance (by rfl) h.m_BadNumber) da_nil))))) (by rfl) (by first | exact .inl rfl | exact .inr rfl))
  (dss_cons (ds_setN (i := 3) nd__law_error (by rfl) (by first | exact .inl rfl | exact .inr rfl) (dx_add (do_n (pv 3)) (do_v (de_fz (dl_lst (da_cons (de_isx h.kit_BadQuestion hzT hflT (by rfl) (by first | exact .inl rfl | exact .inr (.inl rfl) | exact .inr (.inr rfl)) (by rfl) h.n_isinstance (by rfl) h.m_BadQuestion) (da_cons (de_isx h.kit_BadEdits hzT hflT (by rfl) (by first | exact .inl rfl | exact .inr (.inl rfl) | exact .inr (.inr rfl)) (by rfl) h.n_isinstance (by rfl) h.m_BadEdits) da_nil)))))) (by rfl) (by first | exact .inl rfl | exact .inr rfl))
  (dss_cons (ds_setN (i := 3) nd__law_error (by rfl) (by first | exact .inl rfl | exact .inr rfl) (dx_add (do_n (pv 3)) (do_v (de_fz (dl_lst (da_cons (de_isx h.kit_BadKeeper hzT hflT (by rfl) (by first | exact .inl rfl | exact .inr (.inl rfl) | exact .inr (.inr rfl)) (by rfl) h.n_isinstance (by rfl) h.m_BadKeeper) da_nil))))) (by rfl) (by first | exact .inl rfl | exact .inr rfl))
  (dss_cons (ds_setN (i := 3) nd__law_error (by rfl) (by first | exact .inl rfl | exact .inr rfl) (dx_add (do_n (pv 3)) (do_v (de_fz (dl_lst (da_cons (de_isx h.kit_BadMessages hzT hflT (by rfl) (by first | exact .inl rfl | exact .inr (.inl rfl) | exact .inr (.inr rfl)) (by rfl) h.n_isinstance (by rfl) h.m_BadMessages) (da_cons (de_isx h.kit_BadString hzT hflT (by rfl) (by first | exact .inl rfl | exact .inr (.inl rfl) | exact .inr (.inr rfl)) (by rfl) h.n_isinstance (by rfl) h.m_BadString) da_nil)))))) (by rfl) (by first | exact .inl rfl | exact .inr rfl))
  (dss_cons (ds_setN (i := 3) nd__law_error (by rfl) (by first | exact .inl rfl | exact .inr rfl) (dx_add (do_n (pv 3)) (do_v (de_fz (dl_lst (da_cons (de_isx h.kit_BadText hzT hflT (by rfl) (by first | exact .inl rfl | exact .inr (.inl rfl) | exact .inr (.inr rfl)) (by rfl) h.n_isinstance (by rfl) h.m_BadText) da_nil))))) (by rfl) (by first | exact .inl rfl | exact .inr rfl))
  (dss_cons (ds_setN (i := 3) nd__law_error (by rfl) (by first | exact .inl rfl | exact .inr rfl) (dx_add (do_n (pv 3)) (do_v (de_fz (dl_lst (da_cons (de_isx h.kit_NoKeeper hzT hflT (by rfl) (by first | exact .inl rfl | exact .inr (.inl rfl) | exact .inr (.inr rfl)) (by rfl) h.n_isinstance (by rfl) h.m_NoKeeper) (da_cons (de_isx h.kit_Answerable hzT hflT (by rfl) (by first | exact .inl rfl | exact .inr (.inl rfl) | exact .inr (.inr rfl)) (by rfl) h.n_isinstance (by rfl) h.m_Answerable) da_nil)))))) (by rfl) (by first | exact .inl rfl | exact .inr rfl))
  (dss_one (ds_setN (i := 1) nd__law_error (by rfl) (by first | exact .inl rfl | exact .inr rfl) (dx_v (de_if (dw_and (dc_eq (ru hr :) (by rfl) (do_v (de_count (ru hr :) (do_n (pv 3)) (da_o (do_v de_bl) da_nil))) (do_v de_int)).vt (dw_and1 (dt_val (de_isxT h.kit_ValueError hzT hflT (by rfl) (by first | exact .inl rfl | exact .inr (.inl rfl) | exact .inr (.inr rfl)) (by rfl) h.n_isinstance (by rfl) h.n_ValueError (by rfl))))).dt (de_index (ru hr :) (do_n (pv 3)) (da_o (do_v de_bl) da_nil)) de_str)) (by rfl) (by first | exact .inl rfl | exact .inr rfl)))))))))))
  (dss_one (ds_ret (de_var (pv 1))))))
theorem nd__law_taken : (["_law_row", "_law_many", "_law_found", "_law_cell"] : List Str).Nodup := by decide +kernel
theorem sc__law_taken : FnScope ["_law_row", "_law_many", "_law_found", "_law_cell"] ["_law_row", "_law_many"] (defScope (top 82)) := ⟨rfl, rfl, rfl, nd__law_taken, rfl, by decide +kernel, by decide +kernel⟩
theorem bi__law_taken (h : GOk K mg base w g) : Binds K g.d__law_taken ["_law_row", "_law_many"] [] := h.F__law_taken.bindsN fun _ _ _ _ _ _ us hl => match us, hl with | [_, _], _ => rfl
theorem len__law_taken (sl : List Sl) (e : sl.length ≠ 2) : D__law_taken sl = .st := fnOf_len _ e
theorem ok__law_taken (h : GOk K mg base w g) : FnOk P w K mg base (L2.CX P w) 1 g.f__law_taken g.d__law_taken ["_law_row", "_law_many"] (SpOf K (tgOf w g.tg) 2 D__law_taken) :=
  def_ok (k := 0) (h.F__law_taken) sc__law_taken rfl rfl fun cdv A outer s H E hr => (dss_cons (ds_if (dc_gt (by rfl) (do_v (de_ix (do_n (pv 0)) (do_v de_int) (by intro _ _; rfl) (hu := (ru hr)))) (do_v de_int)).vt (dss_cons (ds_setN (i := 2) nd__law_taken (by rfl) (by first | exact .inl rfl | exact .inr rfl) (dx_v (de_mod (do_v (de_x (dx_int (by rfl) h.n_int (da_o (do_v (de_ix (do_n (pv 0)) (do_v de_int) (by intro _ _; rfl) (hu := (ru hr)))) da_nil)))) (do_n (pv 1)))) (by rfl) (by first | exact .inl rfl | exact .inr rfl))
  (dss_cons (ds_putN (pv 0) (de_div (do_v (de_ix (do_n (pv 0)) (do_v de_int) (by intro _ _; rfl) (hu := (ru hr)))) (do_n (pv 1))) de_int (hu := (ru hr)))
  (dss_one (ds_ret (de_var (pv 2)))))) dss_nil)
  (dss_cons (ds_putN (pv 0) (de_x (dx_add (do_v (de_ix (do_n (pv 0)) (do_v de_int) (by intro _ _; rfl) (hu := (ru hr)))) (do_v de_int))) de_int (hu := (ru hr)))
  (dss_cons (ds_if (dc_gt (by rfl) (do_v (de_ix (do_n (pv 0)) (do_v de_int) (by intro _ _; rfl) (hu := (ru hr)))) (do_v (de_x (dx_len (by rfl) h.n_len (da_o (do_v (de_ix (do_n (pv 0)) (do_v de_int) (by intro _ _; rfl) (hu := (ru hr)))) da_nil))))).vt (dss_cons (ds_putN (pv 0) (de_mod (do_v (de_x (dx_int (by rfl) h.n_int (da_o (do_v (de_x (dx_add (do_v (de_x (dx_mul (do_v (de_ix (do_n (pv 0)) (do_v de_int) (by intro _ _; rfl) (hu := (ru hr)))) (do_v de_int)))) (do_v de_int)))) da_nil)))) (do_v de_int)) de_int (hu := (ru hr)))
  (dss_one (ds_ret (de_mod (do_v (de_x (dx_int (by rfl) h.n_int (da_o (do_v (de_div (do_v (de_ix (do_n (pv 0)) (do_v de_int) (by intro _ _; rfl) (hu := (ru hr)))) (do_v de_int))) da_nil)))) (do_n (pv 1)))))) dss_nil)
  (dss_cons (ds_setN (i := 3) nd__law_taken (by rfl) (by first | exact .inl rfl | exact .inr rfl) (dx_v (de_ix (do_v (de_ix (do_n (pv 0)) (do_v de_int) (by intro _ _; rfl) (hu := (ru hr)))) (do_v (de_sub (do_v (de_ix (do_n (pv 0)) (do_v de_int) (by intro _ _; rfl) (hu := (ru hr)))) (do_v de_int))) (by intro _ _; rfl) (hu := (ru hr)))) (by rfl) (by first | exact .inl rfl | exact .inr rfl))
  (dss_cons (ds_putN (pv 0) (de_mod (do_v (de_x (dx_int (by rfl) h.n_int (da_o (do_v (de_x (dx_add (do_v (de_x (dx_add (do_v (de_x (dx_mul (do_v (de_ix (do_n (pv 0)) (do_v de_int) (by intro _ _; rfl) (hu := (ru hr)))) (do_v de_int)))) (do_n (pv 3))))) (do_v de_int)))) da_nil)))) (do_v de_int)) de_int (hu := (ru hr)))
  (dss_cons (ds_if (dc_ge (by rfl) (do_n (pv 3)) (do_v (de_pow (do_v de_int) (do_v de_int)))).vt (dss_one (ds_putN (pv 0) (de_div (do_n (pv 3)) (do_n (pv 1))) de_int (hu := (ru hr)))) dss_nil)
  (dss_one (ds_ret (de_mod (do_v (de_x (dx_int (by rfl) h.n_int (da_o (do_n (pv 3)) da_nil)))) (do_n (pv 1)))))))))))
theorem nd__law_pick : (["_law_row", "_law_things"] : List Str).Nodup := by decide +kernel
theorem sc__law_pick : FnScope ["_law_row", "_law_things"] ["_law_row", "_law_things"] (defScope (top 83)) := ⟨rfl, rfl, rfl, nd__law_pick, rfl, by decide +kernel, by decide +kernel⟩
theorem bi__law_pick (h : GOk K mg base w g) : Binds K g.d__law_pick ["_law_row", "_law_things"] [] := h.F__law_pick.bindsN fun _ _ _ _ _ _ us hl => match us, hl with | [_, _], _ => rfl
theorem len__law_pick (sl : List Sl) (e : sl.length ≠ 2) : D__law_pick sl = .st := fnOf_len _ e
theorem ok__law_pick (h : GOk K mg base w g) : FnOk P w K mg base (L2.CX P w) 2 g.f__law_pick g.d__law_pick ["_law_row", "_law_things"] (SpOf K (tgOf w g.tg) 2 D__law_pick) :=
  def_ok (k := 1) (h.F__law_pick) sc__law_pick rfl rfl fun cdv A outer s H E hr => (dss_one (ds_ret (de_ix (do_n (pv 1)) (do_v (de_call (ok__law_taken h) len__law_taken (hr.mono (by omega)) (by rfl) h.m__law_taken h.F__law_taken.kp (bi__law_taken h) (Air.of (takes_def (CXx := L2.CX P w))) (da_io (pv 0) (da_cons (de_x (dx_len (by rfl) h.n_len (da_o (do_n (pv 1)) da_nil))) da_nil)))) (by intro _ _; rfl) (hu := (ru hr)))))
theorem nd_parted : (["steps", "answers", "lots", "one", "pictures", "finer", "state", "picture", "after"] : List Str).Nodup := by decide +kernel
theorem sc_parted : FnScope ["steps", "answers", "lots", "one", "pictures", "finer", "state", "picture", "after"] ["steps", "answers"] (defScope (top 24)) := ⟨rfl, rfl, rfl, nd_parted, rfl, by decide +kernel, by decide +kernel⟩
theorem bi_parted (h : GOk K mg base w g) : Binds K g.d_parted ["steps", "answers"] [] := h.F_parted.bindsN fun _ _ _ _ _ _ us hl => match us, hl with | [_, _], _ => rfl
theorem len_parted (sl : List Sl) (e : sl.length ≠ 2) : D_parted sl = .st := fnOf_len _ e
theorem ok_parted (h : GOk K mg base w g) : FnOk P w K mg base (L2.CX P w) 1 g.f_parted g.d_parted ["steps", "answers"] (SpOf K (tgOf w g.tg) 2 D_parted) :=
  def_ok (k := 0) (h.F_parted) sc_parted rfl rfl fun cdv A outer s H E hr => (dss_cons (ds_setN (i := 2) nd_parted (by rfl) (by first | exact .inl rfl | exact .inr rfl) (dx_l (dl_lc (own := [("one", 3)]) (by rfl) nd_parted (di_seq (de_var (pv 1))) (blkOk_by (by kernel_rfl)) (fun _ _ _ _ _ => (dg_name (pg_name nd_parted (by rfl) (by first | exact .inl rfl | exact .inr rfl)))) (fun _ _ _ _ _ => dts_nil) (fun _ _ _ _ _ => (de_index (ru hr) (do_n (pv 1)) (da_o (do_n (pv 3)) da_nil))))) (by rfl) (by first | exact .inl rfl | exact .inr rfl))
  (dss_one (ds_while passes_def (dt_val de_bl) (dss_cons (ds_setN (i := 4) nd_parted (by rfl) (by first | exact .inl rfl | exact .inr rfl) (dx_l (dl_lc (own := [("state", 6)]) (by rfl) nd_parted (di_range1 (by rfl) h.n_range (da_cons (de_x (dx_len (by rfl) h.n_len (da_o (do_n (pv 0)) da_nil))) da_nil)) (blkOk_by (by kernel_rfl)) (fun _ _ _ _ _ => (dg_name (pg_name nd_parted (by rfl) (by first | exact .inl rfl | exact .inr rfl)))) (fun _ _ _ _ _ => dts_nil) (fun _ _ _ _ _ => (de_x (dx_add (do_v (de_tup (da_cons (de_ix (do_n (pv 2)) (do_n (pv 6)) (by intro _ _; rfl) (hu := (ru hr))) da_nil))) (do_v (de_x (dx_tuple (by rfl) h.n_tuple (da_o (do_v (de_fz (dl_lc (own := [("after", 8)]) (by rfl) nd_parted (di_seq (de_ix (do_n (pv 0)) (do_n (pv 6)) (by intro _ _; rfl) (hu := (ru hr)))) (blkOk_by (by kernel_rfl)) (fun _ _ _ _ _ => (dg_name (pg_name nd_parted (by rfl) (by first | exact .inl rfl | exact .inr rfl)))) (fun _ _ _ _ _ => dts_nil) (fun _ _ _ _ _ => (de_ix (do_n (pv 2)) (do_n (pv 8)) (by intro _ _; rfl) (hu := (ru hr))))))) da_nil))))))))) (by rfl) (by first | exact .inl rfl | exact .inr rfl))
  (dss_cons (ds_setLc (i := 5) (own := [("picture", 7)]) (by rfl) nd_parted (by rfl) (by rfl) (sw_true (by rfl) (by rfl) (by rfl) (by rfl)) (di_seq (de_var (pv 4))) (blkOk_by (by kernel_rfl)) (fun _ _ _ _ _ => (dg_name (pg_name nd_parted (by rfl) (by first | exact .inl rfl | exact .inr rfl)))) (fun _ _ _ _ _ => dts_nil) (fun _ _ _ _ _ => (de_index (ru hr) (do_n (pv 4)) (da_o (do_n (pv 7)) da_nil))))
  (dss_cons (ds_if (dc_eq (ru hr) (by rfl) (do_n (pv 5)) (do_n (pv 2))).vt (dss_one (ds_ret (de_var (pv 2)))) dss_nil)
  (dss_one (ds_setN (i := 2) nd_parted (by rfl) (by first | exact .inl rfl | exact .inr rfl) (dx_v (de_var (pv 5))) (by rfl) (by first | exact .inl rfl | exact .inr rfl)))))))))
theorem nd_shrunk : (["steps", "answers", "lots", "numbers", "order", "found", "at", "row", "after", "state"] : List Str).Nodup := by decide +kernel
theorem sc_shrunk : FnScope ["steps", "answers", "lots", "numbers", "order", "found", "at", "row", "after", "state"] ["steps", "answers"] (defScope (top 25)) := ⟨rfl, rfl, rfl, nd_shrunk, rfl, by decide +kernel, by decide +kernel⟩
theorem bi_shrunk (h : GOk K mg base w g) : Binds K g.d_shrunk ["steps", "answers"] [] := h.F_shrunk.bindsN fun _ _ _ _ _ _ us hl => match us, hl with | [_, _], _ => rfl
theorem len_shrunk (sl : List Sl) (e : sl.length ≠ 2) : D_shrunk sl = .st := fnOf_len _ e
theorem ok_shrunk (h : GOk K mg base w g) : FnOk P w K mg base (L2.CX P w) 2 g.f_shrunk g.d_shrunk ["steps", "answers"] (SpOf K (tgOf w g.tg) 2 D_shrunk) :=
  def_ok (k := 1) (h.F_shrunk) sc_shrunk rfl rfl fun cdv A outer s H E hr => (dss_cons (ds_setN (i := 2) nd_shrunk (by rfl) (by first | exact .inl rfl | exact .inr rfl) (dx_v (de_call (ok_parted h) len_parted (hr.mono (by omega)) (by rfl) h.m_parted h.F_parted.kp (bi_parted h) (Air.of (takes_def (CXx := L2.CX P w))) (da_cons (de_var (pv 0)) (da_cons (de_x (dx_list (by rfl) h.n_list (da_o (do_n (pv 1)) da_nil))) da_nil)))) (by rfl) (by first | exact .inl rfl | exact .inr rfl))
  (dss_cons (ds_parG (is := [3, 4, 5, 6]) (by rfl) (pgs_cons (pg_name nd_shrunk (i := 3) (by rfl) (by first | exact .inl rfl | exact .inr rfl)) (pgs_cons (pg_name nd_shrunk (i := 4) (by rfl) (by first | exact .inl rfl | exact .inr rfl)) (pgs_cons (pg_name nd_shrunk (i := 5) (by rfl) (by first | exact .inl rfl | exact .inr rfl)) (pgs_cons (pg_name nd_shrunk (i := 6) (by rfl) (by first | exact .inl rfl | exact .inr rfl)) pgs_nil)))) (by rfl) (dax_cons (dx_disp1 (ru hr) (de_ix (do_n (pv 2)) (do_v de_int) (by intro _ _; rfl) (hu := (ru hr))) de_int) (dax_cons (dx_l (dl_lst (da_cons de_int da_nil))) (dax_cons (dx_l (dl_lst da_nil)) (dax_cons (dx_v de_int) dax_nil)))))
  (dss_cons (ds_while passes_def (dc_lt (by rfl) (do_n (pv 6)) (do_v (de_x (dx_len (by rfl) h.n_len (da_o (do_n (pv 4)) da_nil))))).vt (dss_cons (ds_setN (i := 7) nd_shrunk (by rfl) (by first | exact .inl rfl | exact .inr rfl) (dx_l (dl_lst da_nil)) (by rfl) (by first | exact .inl rfl | exact .inr rfl))
  (dss_cons (ds_for passes_def (by rfl) (di_seq (de_ix (do_n (pv 0)) (do_v (de_ix (do_n (pv 4)) (do_n (pv 6)) (by intro _ _; rfl) (hu := (ru hr)))) (by intro _ _; rfl) (hu := (ru hr)))) (dg_name (pg_name nd_shrunk (by rfl) (by first | exact .inl rfl | exact .inr rfl))) (dss_cons (ds_if (dc_notin (ru hr) (by rfl) (do_v (de_ix (do_n (pv 2)) (do_n (pv 8)) (by intro _ _; rfl) (hu := (ru hr)))) (do_n (pv 3))).vt (dss_cons (ds_putN (pv 3) (de_x (dx_len (by rfl) h.n_len (da_o (do_n (pv 4)) da_nil))) (de_ix (do_n (pv 2)) (do_n (pv 8)) (by intro _ _; rfl) (hu := (ru hr))) (hu := (ru hr)))
  (dss_one (ds_expr (de_append (pv 4) (da_cons (de_var (pv 8)) da_nil))))) dss_nil)
  (dss_one (ds_expr (de_append (pv 7) (da_cons (de_ix (do_n (pv 3)) (do_v (de_ix (do_n (pv 2)) (do_n (pv 8)) (by intro _ _; rfl) (hu := (ru hr)))) (by intro _ _; rfl) (hu := (ru hr))) da_nil))))))
  (dss_cons (ds_expr (de_append (pv 5) (da_cons (de_x (dx_tuple (by rfl) h.n_tuple (da_o (do_n (pv 7)) da_nil))) da_nil)))
  (dss_one (ds_iadd nd_shrunk (i := 6) (by rfl) (by first | exact .inl rfl | exact .inr rfl) de_int (by first | exact .inl rfl | exact .inr rfl)))))))
  (dss_one (ds_ret (de_tup (da_cons (de_x (dx_tuple (by rfl) h.n_tuple (da_o (do_n (pv 5)) da_nil))) (da_cons (de_x (dx_tuple (by rfl) h.n_tuple (da_o (do_v (de_fz (dl_lc (own := [("state", 9)]) (by rfl) nd_shrunk (di_seq (de_var (pv 4))) (blkOk_by (by kernel_rfl)) (fun _ _ _ _ _ => (dg_name (pg_name nd_shrunk (by rfl) (by first | exact .inl rfl | exact .inr rfl)))) (fun _ _ _ _ _ => dts_nil) (fun _ _ _ _ _ => (de_ix (do_n (pv 1)) (do_n (pv 9)) (by intro _ _; rfl) (hu := (ru hr))))))) da_nil))) da_nil))))))))
theorem nd_least_of : (["question", "steps", "answers"] : List Str).Nodup := by decide +kernel
theorem sc_least_of : FnScope ["question", "steps", "answers"] ["question"] (defScope (top 26)) := ⟨rfl, rfl, rfl, nd_least_of, rfl, by decide +kernel, by decide +kernel⟩
theorem bi_least_of (h : GOk K mg base w g) : Binds K g.d_least_of ["question"] [] := h.F_least_of.bindsN fun _ _ _ _ _ _ us hl => match us, hl with | [_], _ => rfl
theorem len_least_of (sl : List Sl) (e : sl.length ≠ 1) : D_least_of sl = .st := fnOf_len _ e
theorem ok_least_of (h : GOk K mg base w g) : FnOk P w K mg base (L2.CX P w) 3 g.f_least_of g.d_least_of ["question"] (SpOf K (tgOf w g.tg) 1 D_least_of) :=
  def_ok (k := 2) (h.F_least_of) sc_least_of rfl rfl fun cdv A outer s H E hr => (dss_cons (ds_asg (ps_asg (de_call (ok_shrunk h) len_shrunk (hr.mono (by omega)) (by rfl) h.m_shrunk h.F_shrunk.kp (bi_shrunk h) (Air.of (takes_def (CXx := L2.CX P w))) (da_cons (de_ix (do_n (pv 0)) (do_v de_int) (by intro _ _; rfl) (hu := (ru hr))) (da_cons (de_ix (do_n (pv 0)) (do_v de_int) (by intro _ _; rfl) (hu := (ru hr))) da_nil))) (dg_tup (by rfl) (dgs_cons (dg_name (pg_name nd_least_of (by rfl) (by first | exact .inl rfl | exact .inr rfl))) (dgs_cons (dg_name (pg_name nd_least_of (by rfl) (by first | exact .inl rfl | exact .inr rfl))) dgs_nil)))) fun _ _ _ q => q)
  (dss_one (ds_ret (de_tup (da_cons (de_ix (do_n (pv 0)) (do_v de_int) (by intro _ _; rfl) (hu := (ru hr))) (da_cons (de_var (pv 1)) (da_cons (de_var (pv 2)) da_nil)))))))
theorem nd_is_number : (["value", "low", "high"] : List Str).Nodup := by decide +kernel
theorem sc_is_number : FnScope ["value", "low", "high"] ["value", "low", "high"] (defScope (top 20)) := ⟨rfl, rfl, rfl, nd_is_number, rfl, by decide +kernel, by decide +kernel⟩
theorem bi_is_number (h : GOk K mg base w g) : Binds K g.d_is_number ["value", "low", "high"] [] := h.F_is_number.bindsN fun _ _ _ _ _ _ us hl => match us, hl with | [_, _, _], _ => rfl
theorem len_is_number (sl : List Sl) (e : sl.length ≠ 3) : D_is_number sl = .st := fnOf_len _ e
theorem ok_is_number (h : GOk K mg base w g) : FnOk P w K mg base (L2.CX P w) 1 g.f_is_number g.d_is_number ["value", "low", "high"] (SpOf K (tgOf w g.tg) 3 D_is_number) :=
  def_ok (k := 0) (h.F_is_number) sc_is_number rfl rfl fun cdv A outer s H E hr => (dss_one (ds_ret (de_and (de_isi isT_int (by rfl) h.n_isinstance (by rfl) h.n_int (by rfl) (do_n (pv 0))) (de_and (de_not (de_isi isT_bool (by rfl) h.n_isinstance (by rfl) h.n_bool (by rfl) (do_n (pv 0)))) (de_one (dc_lele (do_n (pv 1)) (do_n (pv 0)) (do_n (pv 2))).ve)))))
theorem nd_need_counts : (["letters", "counts", "many"] : List Str).Nodup := by decide +kernel
theorem sc_need_counts : FnScope ["letters", "counts", "many"] ["letters", "counts"] (defScope (top 31)) := ⟨rfl, rfl, rfl, nd_need_counts, rfl, by decide +kernel, by decide +kernel⟩
theorem bi_need_counts (h : GOk K mg base w g) : Binds K g.d_need_counts ["letters", "counts"] [] := h.F_need_counts.bindsN fun _ _ _ _ _ _ us hl => match us, hl with | [_, _], _ => rfl
theorem len_need_counts (sl : List Sl) (e : sl.length ≠ 2) : D_need_counts sl = .st := fnOf_len _ e
theorem ok_need_counts (h : GOk K mg base w g) : FnOk P w K mg base (L2.CX P w) 3 g.f_need_counts g.d_need_counts ["letters", "counts"] (SpOf K (tgOf w g.tg) 2 D_need_counts) :=
  def_ok (k := 2) (h.F_need_counts) sc_need_counts rfl rfl fun cdv A outer s H E hr => (dss_cons (ds_if (dw_or (dt_not (dt_val (de_isi isT_tuple (by rfl) h.n_isinstance (by rfl) h.n_tuple (by rfl) (do_n (pv 1))))) (dw_or1 (dc_ne (ru hr) (by rfl) (do_v (de_x (dx_len (by rfl) h.n_len (da_o (do_n (pv 1)) da_nil)))) (do_n (pv 0))).vt)).dt (dss_one (ds_raise0 (by rfl) (takes_def (CXx := L2.CX P w)) h.x_BadNumber (by rfl))) dss_nil)
  (dss_one (ds_if (dc_ne (ru hr) (by rfl) (do_v (de_fz (dl_lc (own := [("many", 2)]) (by rfl) nd_need_counts (di_seq (de_var (pv 1))) (blkOk_by (by kernel_rfl)) (fun _ _ _ _ _ => (dg_name (pg_name nd_need_counts (by rfl) (by first | exact .inl rfl | exact .inr rfl)))) (fun _ _ _ _ _ => (dts_one (dt_not (dt_val (de_call (ok_is_number h) len_is_number (hr.mono (by omega)) (by rfl) h.m_is_number h.F_is_number.kp (bi_is_number h) Air.none (da_cons (de_var (pv 2)) (da_cons de_int (da_cons (de_con (by rfl) h.con_MOST_COUNT) da_nil)))))))) (fun _ _ _ _ _ => (de_var (pv 2)))))) (do_v (de_fz (dl_lst da_nil)))).vt (dss_one (ds_raise0 (by rfl) (takes_def (CXx := L2.CX P w)) h.x_BadNumber (by rfl))) dss_nil)))
theorem nd_are_steps : (["value", "letters", "most", "state", "after"] : List Str).Nodup := by decide +kernel
theorem sc_are_steps : FnScope ["value", "letters", "most", "state", "after"] ["value", "letters", "most"] (defScope (top 21)) := ⟨rfl, rfl, rfl, nd_are_steps, rfl, by decide +kernel, by decide +kernel⟩
theorem bi_are_steps (h : GOk K mg base w g) : Binds K g.d_are_steps ["value", "letters", "most"] [] := h.F_are_steps.bindsN fun _ _ _ _ _ _ us hl => match us, hl with | [_, _, _], _ => rfl
theorem len_are_steps (sl : List Sl) (e : sl.length ≠ 3) : D_are_steps sl = .st := fnOf_len _ e
theorem ok_are_steps (h : GOk K mg base w g) : FnOk P w K mg base (L2.CX P w) 5 g.f_are_steps g.d_are_steps ["value", "letters", "most"] (SpOf K (tgOf w g.tg) 3 D_are_steps) :=
  def_okC (k := 4) (h.F_are_steps) h.k_are_steps sc_are_steps rfl rfl fun A outer s H E hr => (dss_cons (ds_if (dw_or (dt_not (dt_val (de_isi isT_tuple (by rfl) h.n_isinstance (by rfl) h.n_tuple (by rfl) (do_n (pv 0))))) (dw_or1 (dt_not (dc_lele (do_v de_int) (do_v (de_x (dx_len (by rfl) h.n_len (da_o (do_n (pv 0)) da_nil)))) (do_n (pv 2))).vt))).dt (dss_one (ds_ret de_bl)) dss_nil)
  (dss_cons (ds_for passes_def (by rfl) (di_seq (de_var (pv 0))) (dg_name (pg_name nd_are_steps (by rfl) (by first | exact .inl rfl | exact .inr rfl))) (dss_cons (ds_if (dw_or (dt_not (dt_val (de_isi isT_tuple (by rfl) h.n_isinstance (by rfl) h.n_tuple (by rfl) (do_n (pv 3))))) (dw_or1 (dc_ne (ru hr) (by rfl) (do_v (de_x (dx_len (by rfl) h.n_len (da_o (do_n (pv 3)) da_nil)))) (do_n (pv 1))).vt)).dt (dss_one (ds_ret de_bl)) dss_nil)
  (dss_one (ds_if (dt_not (dt_val (de_all (k := 1) (own := [("after", 4)]) (hr.mono (by omega)) (by rfl) nd_are_steps (by rfl) h.n_all h.t_are_steps (tg_are_steps h) (by rfl) (gnS_by (by kernel_rfl)) (di_seq (de_var (pv 3))) ⟨(fun A1 _ _ _ _ _ _ hr1 => (dg_name (pg_name nd_are_steps (by rfl) (by first | exact .inl rfl | exact .inr rfl)))), (fun A1 _ _ _ _ _ _ hr1 => dts_nil), (fun A1 _ _ _ _ _ _ hr1 => (de_call (ok_is_number h) len_is_number (hr1.mono (by omega)) (by rfl) h.m_is_number h.F_is_number.kp (bi_is_number h) Air.none (da_cons (de_var (pv 4)) (da_cons de_int (da_cons (de_sub (do_v (de_x (dx_len (by rfl) h.n_len (da_o (do_n (pv 0)) da_nil)))) (do_v de_int)) da_nil)))))⟩))) (dss_one (ds_ret de_bl)) dss_nil))))
  (dss_one (ds_ret de_bl))))
theorem nd_need_question : (["value", "letters", "steps", "answers", "one"] : List Str).Nodup := by decide +kernel
theorem sc_need_question : FnScope ["value", "letters", "steps", "answers", "one"] ["value"] (defScope (top 22)) := ⟨rfl, rfl, rfl, nd_need_question, rfl, by decide +kernel, by decide +kernel⟩
theorem bi_need_question (h : GOk K mg base w g) : Binds K g.d_need_question ["value"] [] := h.F_need_question.bindsN fun _ _ _ _ _ _ us hl => match us, hl with | [_], _ => rfl
theorem len_need_question (sl : List Sl) (e : sl.length ≠ 1) : D_need_question sl = .st := fnOf_len _ e
theorem ok_need_question (h : GOk K mg base w g) : FnOk P w K mg base (L2.CX P w) 6 g.f_need_question g.d_need_question ["value"] (SpOf K (tgOf w g.tg) 1 D_need_question) :=
  def_okC (k := 5) (h.F_need_question) h.k_need_question sc_need_question rfl rfl fun A outer s H E hr => (dss_cons (ds_if (dw_or (dt_not (dt_val (de_isi isT_tuple (by rfl) h.n_isinstance (by rfl) h.n_tuple (by rfl) (do_n (pv 0))))) (dw_or1 (dc_ne (ru hr) (by rfl) (do_v (de_x (dx_len (by rfl) h.n_len (da_o (do_n (pv 0)) da_nil)))) (do_v de_int)).vt)).dt (dss_one (ds_raise1 (k := 1) (by rfl) (takes_def (CXx := L2.CX P w)) h.x_BadQuestion (ok_init_BadQuestion h) (hr.mono (by omega)) (bi_init_BadQuestion h) (by rfl) de_str)) dss_nil)
  (dss_cons (ds_asg (ps_asg (de_var (pv 0)) (dg_tup (by rfl) (dgs_cons (dg_name (pg_name nd_need_question (by rfl) (by first | exact .inl rfl | exact .inr rfl))) (dgs_cons (dg_name (pg_name nd_need_question (by rfl) (by first | exact .inl rfl | exact .inr rfl))) (dgs_cons (dg_name (pg_name nd_need_question (by rfl) (by first | exact .inl rfl | exact .inr rfl))) dgs_nil))))) fun _ _ _ q => q)
  (dss_cons (ds_if (dt_not (dt_val (de_call (ok_is_number h) len_is_number (hr.mono (by omega)) (by rfl) h.m_is_number h.F_is_number.kp (bi_is_number h) (Air.of (takes_def (CXx := L2.CX P w))) (da_cons (de_var (pv 1)) (da_cons de_int (da_cons (de_con (by rfl) h.con_MOST_LETTERS) da_nil)))))) (dss_one (ds_raise1 (k := 1) (by rfl) (takes_def (CXx := L2.CX P w)) h.x_BadQuestion (ok_init_BadQuestion h) (hr.mono (by omega)) (bi_init_BadQuestion h) (by rfl) de_str)) dss_nil)
  (dss_cons (ds_if (dt_not (dt_val (de_call (ok_are_steps h) len_are_steps (hr.mono (by omega)) (by rfl) h.m_are_steps h.F_are_steps.kp (bi_are_steps h) (Air.of (takes_def (CXx := L2.CX P w))) (da_cons (de_var (pv 2)) (da_cons (de_var (pv 1)) (da_cons (de_con (by rfl) h.con_MOST_STATES) da_nil)))))) (dss_one (ds_raise1 (k := 1) (by rfl) (takes_def (CXx := L2.CX P w)) h.x_BadQuestion (ok_init_BadQuestion h) (hr.mono (by omega)) (bi_init_BadQuestion h) (by rfl) de_str)) dss_nil)
  (dss_cons (ds_if (dw_or (dt_not (dt_val (de_isi isT_tuple (by rfl) h.n_isinstance (by rfl) h.n_tuple (by rfl) (do_n (pv 3))))) (dw_or1 (dc_ne (ru hr) (by rfl) (do_v (de_x (dx_len (by rfl) h.n_len (da_o (do_n (pv 3)) da_nil)))) (do_v (de_x (dx_len (by rfl) h.n_len (da_o (do_n (pv 2)) da_nil))))).vt)).dt (dss_one (ds_raise1 (k := 1) (by rfl) (takes_def (CXx := L2.CX P w)) h.x_BadQuestion (ok_init_BadQuestion h) (hr.mono (by omega)) (bi_init_BadQuestion h) (by rfl) de_str)) dss_nil)
  (dss_one (ds_if (dt_not (dt_val (de_all (k := 1) (own := [("one", 4)]) (hr.mono (by omega)) (by rfl) nd_need_question (by rfl) h.n_all h.t_need_question (tg_need_question h) (by rfl) (gnS_by (by kernel_rfl)) (di_seq (de_var (pv 3))) ⟨(fun A1 _ _ _ _ _ _ hr1 => (dg_name (pg_name nd_need_question (by rfl) (by first | exact .inl rfl | exact .inr rfl)))), (fun A1 _ _ _ _ _ _ hr1 => dts_nil), (fun A1 _ _ _ _ _ _ hr1 => (de_call (ok_is_number h) len_is_number (hr1.mono (by omega)) (by rfl) h.m_is_number h.F_is_number.kp (bi_is_number h) Air.none (da_cons (de_var (pv 4)) (da_cons de_int (da_cons (de_con (by rfl) h.con_MOST_ANSWER) da_nil)))))⟩))) (dss_one (ds_raise1 (k := 1) (by rfl) (takes_def (CXx := L2.CX P w)) h.x_BadQuestion (ok_init_BadQuestion h) (hr.mono (by omega)) (bi_init_BadQuestion h) (by rfl) de_str)) dss_nil)))))))
theorem nd_all_below : (["counts", "found", "many", "row", "one"] : List Str).Nodup := by decide +kernel
theorem sc_all_below : FnScope ["counts", "found", "many", "row", "one"] ["counts"] (defScope (top 32)) := ⟨rfl, rfl, rfl, nd_all_below, rfl, by decide +kernel, by decide +kernel⟩
theorem bi_all_below (h : GOk K mg base w g) : Binds K g.d_all_below ["counts"] [] := h.F_all_below.bindsN fun _ _ _ _ _ _ us hl => match us, hl with | [_], _ => rfl
theorem len_all_below (sl : List Sl) (e : sl.length ≠ 1) : D_all_below sl = .st := fnOf_len _ e
theorem ok_all_below (h : GOk K mg base w g) : FnOk P w K mg base (L2.CX P w) 1 g.f_all_below g.d_all_below ["counts"] (SpOf K (tgOf w g.tg) 1 D_all_below) :=
  def_ok (k := 0) (h.F_all_below) sc_all_below rfl rfl fun cdv A outer s H E hr => (dss_cons (ds_setN (i := 1) nd_all_below (by rfl) (by first | exact .inl rfl | exact .inr rfl) (dx_l (dl_lst (da_cons (de_tup da_nil) da_nil))) (by rfl) (by first | exact .inl rfl | exact .inr rfl))
  (dss_cons (ds_for passes_def (by rfl) (di_seq (de_var (pv 0))) (dg_name (pg_name nd_all_below (by rfl) (by first | exact .inl rfl | exact .inr rfl))) (dss_one (ds_setLc2 (i := 1) (own := [("row", 3), ("one", 4)]) (ow1 := [4]) (by rfl) nd_all_below (by rfl) (by rfl) (sw_true (by rfl) (by rfl) (by rfl) (by rfl)) (di_seq (de_var (pv 1))) (blkOk_by (by kernel_rfl)) (fun _ _ _ _ _ => (dg_name (pg_name nd_all_below (by rfl) (by first | exact .inl rfl | exact .inr rfl)))) (fun _ _ _ _ _ => dts_nil) (fun _ _ _ _ _ => (di_range1 (by rfl) h.n_range (da_cons (de_x (dx_add (do_n (pv 2)) (do_v de_int))) da_nil))) (fun _ _ _ _ _ => (dg_name (pg_name nd_all_below (by rfl) (by first | exact .inl rfl | exact .inr rfl)))) (fun _ _ _ _ _ => dts_nil) (fun _ _ _ _ _ => (de_x (dx_add (do_n (pv 3)) (do_v (de_tup (da_cons (de_var (pv 4)) da_nil)))))))))
  (dss_one (ds_ret (de_var (pv 1))))))
theorem nd_ways_to : (["question", "counts", "known", "row", "ways", "letter", "many", "before", "state", "after"] : List Str).Nodup := by decide +kernel
theorem sc_ways_to : FnScope ["question", "counts", "known", "row", "ways", "letter", "many", "before", "state", "after"] ["question", "counts"] (defScope (top 33)) := ⟨rfl, rfl, rfl, nd_ways_to, rfl, by decide +kernel, by decide +kernel⟩
theorem bi_ways_to (h : GOk K mg base w g) : Binds K g.d_ways_to ["question", "counts"] [] := h.F_ways_to.bindsN fun _ _ _ _ _ _ us hl => match us, hl with | [_, _], _ => rfl
theorem len_ways_to (sl : List Sl) (e : sl.length ≠ 2) : D_ways_to sl = .st := fnOf_len _ e
theorem ok_ways_to (h : GOk K mg base w g) : FnOk P w K mg base (L2.CX P w) 2 g.f_ways_to g.d_ways_to ["question", "counts"] (SpOf K (tgOf w g.tg) 2 D_ways_to) :=
  def_ok (k := 1) (h.F_ways_to) sc_ways_to rfl rfl fun cdv A outer s H E hr => (dss_cons (ds_setN (i := 2) nd_ways_to (by rfl) (by first | exact .inl rfl | exact .inr rfl) dx_new (by rfl) (by first | exact .inl rfl | exact .inr rfl))
  (dss_cons (ds_for passes_def (by rfl) (di_seq (de_call (ok_all_below h) len_all_below (hr.mono (by omega)) (by rfl) h.m_all_below h.F_all_below.kp (bi_all_below h) (Air.of (takes_def (CXx := L2.CX P w))) (da_cons (de_var (pv 1)) da_nil))) (dg_name (pg_name nd_ways_to (by rfl) (by first | exact .inl rfl | exact .inr rfl))) (dss_cons (ds_setN (i := 4) nd_ways_to (by rfl) (by first | exact .inl rfl | exact .inr rfl) dx_new (by rfl) (by first | exact .inl rfl | exact .inr rfl))
  (dss_cons (ds_if (dc_eq (ru hr) (by rfl) (do_v (de_x (dx_sum (by rfl) (by rfl) h.n_sum (da_o (do_n (pv 3)) da_nil)))) (do_v de_int)).vt (dss_one (ds_putN (pv 4) de_int de_int (hu := (ru hr)))) dss_nil)
  (dss_cons (ds_for passes_def (by rfl) (di_enum (by rfl) h.n_enumerate (da_cons (de_var (pv 3)) da_nil)) (dg_tup (by rfl) (dgs_cons (dg_name (pg_name nd_ways_to (by rfl) (by first | exact .inl rfl | exact .inr rfl))) (dgs_cons (dg_name (pg_name nd_ways_to (by rfl) (by first | exact .inl rfl | exact .inr rfl))) dgs_nil))) (dss_one (ds_if (dc_gt (by rfl) (do_n (pv 6)) (do_v de_int)).vt (dss_cons (ds_setN (i := 7) nd_ways_to (by rfl) (by first | exact .inl rfl | exact .inr rfl) (dx_v (de_ix (do_n (pv 2)) (do_v (de_x (dx_add (do_v (de_x (dx_add (do_v (de_x (dx_sl (do_n (pv 3)) dp_no (dp_at (de_var (pv 5)))))) (do_v (de_tup (da_cons (de_sub (do_n (pv 6)) (do_v de_int)) da_nil)))))) (do_v (de_x (dx_sl (do_n (pv 3)) (dp_at (de_x (dx_add (do_n (pv 5)) (do_v de_int)))) dp_no)))))) (by intro _ _; rfl) (hu := (ru hr)))) (by rfl) (by first | exact .inl rfl | exact .inr rfl))
  dss_never) dss_nil)))
  (dss_one (ds_putN (pv 2) (de_var (pv 4)) (de_var (pv 3)) (hu := (ru hr))))))))
  (dss_one (ds_ret (de_ix (do_n (pv 2)) (do_n (pv 1)) (by intro _ _; rfl) (hu := (ru hr)))))))
theorem nd_arrangements : (["question", "counts", "small", "found", "ways", "state", "one"] : List Str).Nodup := by decide +kernel
theorem sc_arrangements : FnScope ["question", "counts", "small", "found", "ways", "state", "one"] ["question", "counts"] (defScope (top 34)) := ⟨rfl, rfl, rfl, nd_arrangements, rfl, by decide +kernel, by decide +kernel⟩
theorem bi_arrangements (h : GOk K mg base w g) : Binds K g.d_arrangements ["question", "counts"] [] := h.F_arrangements.bindsN fun _ _ _ _ _ _ us hl => match us, hl with | [_, _], _ => rfl
theorem len_arrangements (sl : List Sl) (e : sl.length ≠ 2) : D_arrangements sl = .st := fnOf_len _ e
theorem ok_arrangements (h : GOk K mg base w g) : FnOk P w K mg base (L2.CX P w) 7 g.f_arrangements g.d_arrangements ["question", "counts"] (SpOf K (tgOf w g.tg) 2 D_arrangements) :=
  def_ok (k := 6) (h.F_arrangements) sc_arrangements rfl rfl fun cdv A outer s H E hr => (dss_cons (ds_expr (de_call (ok_need_question h) len_need_question (hr.mono (by omega)) (by rfl) h.m_need_question h.F_need_question.kp (bi_need_question h) (Air.of (takes_def (CXx := L2.CX P w))) (da_cons (de_var (pv 0)) da_nil)))
  (dss_cons (ds_expr (de_call (ok_need_counts h) len_need_counts (hr.mono (by omega)) (by rfl) h.m_need_counts h.F_need_counts.kp (bi_need_counts h) (Air.of (takes_def (CXx := L2.CX P w))) (da_cons (de_ix (do_n (pv 0)) (do_v de_int) (by intro _ _; rfl) (hu := (ru hr))) (da_cons (de_var (pv 1)) da_nil))))
  (dss_cons (ds_parG (is := [2, 3]) (by rfl) (pgs_cons (pg_name nd_arrangements (i := 2) (by rfl) (by first | exact .inl rfl | exact .inr rfl)) (pgs_cons (pg_name nd_arrangements (i := 3) (by rfl) (by first | exact .inl rfl | exact .inr rfl)) pgs_nil)) (by rfl) (dax_cons (dx_v (de_call (ok_least_of h) len_least_of (hr.mono (by omega)) (by rfl) h.m_least_of h.F_least_of.kp (bi_least_of h) (Air.of (takes_def (CXx := L2.CX P w))) (da_cons (de_var (pv 0)) da_nil))) (dax_cons dx_new dax_nil)))
  (dss_cons (ds_setN (i := 4) nd_arrangements (by rfl) (by first | exact .inl rfl | exact .inr rfl) (dx_v (de_call (ok_ways_to h) len_ways_to (hr.mono (by omega)) (by rfl) h.m_ways_to h.F_ways_to.kp (bi_ways_to h) (Air.of (takes_def (CXx := L2.CX P w))) (da_cons (de_var (pv 2)) (da_cons (de_var (pv 1)) da_nil)))) (by rfl) (by first | exact .inl rfl | exact .inr rfl))
  dss_never))))
theorem nd_led : (["steps", "state", "text", "letter"] : List Str).Nodup := by decide +kernel
theorem sc_led : FnScope ["steps", "state", "text", "letter"] ["steps", "state", "text"] (defScope (top 23)) := ⟨rfl, rfl, rfl, nd_led, rfl, by decide +kernel, by decide +kernel⟩
theorem bi_led (h : GOk K mg base w g) : Binds K g.d_led ["steps", "state", "text"] [] := h.F_led.bindsN fun _ _ _ _ _ _ us hl => match us, hl with | [_, _, _], _ => rfl
theorem len_led (sl : List Sl) (e : sl.length ≠ 3) : D_led sl = .st := fnOf_len _ e
theorem ok_led (h : GOk K mg base w g) : FnOk P w K mg base (L2.CX P w) 1 g.f_led g.d_led ["steps", "state", "text"] (SpOf K (tgOf w g.tg) 3 D_led) :=
  def_ok (k := 0) (h.F_led) sc_led rfl rfl fun cdv A outer s H E hr => (dss_cons (ds_for passes_def (by rfl) (di_seq (de_var (pv 2))) (dg_name (pg_name nd_led (by rfl) (by first | exact .inl rfl | exact .inr rfl))) (dss_one (ds_setN (i := 1) nd_led (by rfl) (by first | exact .inl rfl | exact .inr rfl) (dx_v (de_ix (do_v (de_ix (do_n (pv 0)) (do_n (pv 1)) (by intro _ _; rfl) (hu := (ru hr)))) (do_n (pv 3)) (by intro _ _; rfl) (hu := (ru hr)))) (by rfl) (by first | exact .inl rfl | exact .inr rfl))))
  (dss_one (ds_ret (de_var (pv 1)))))
theorem nd_letter_maps : (["question", "letters", "steps", "_", "letter", "row"] : List Str).Nodup := by decide +kernel
theorem sc_letter_maps : FnScope ["question", "letters", "steps", "_", "letter", "row"] ["question"] (defScope (top 28)) := ⟨rfl, rfl, rfl, nd_letter_maps, rfl, by decide +kernel, by decide +kernel⟩
theorem bi_letter_maps (h : GOk K mg base w g) : Binds K g.d_letter_maps ["question"] [] := h.F_letter_maps.bindsN fun _ _ _ _ _ _ us hl => match us, hl with | [_], _ => rfl
theorem len_letter_maps (sl : List Sl) (e : sl.length ≠ 1) : D_letter_maps sl = .st := fnOf_len _ e
theorem ok_letter_maps (h : GOk K mg base w g) : FnOk P w K mg base (L2.CX P w) 1 g.f_letter_maps g.d_letter_maps ["question"] (SpOf K (tgOf w g.tg) 1 D_letter_maps) :=
  def_ok (k := 0) (h.F_letter_maps) sc_letter_maps rfl rfl fun cdv A outer s H E hr => (dss_cons (ds_asg (ps_asg (de_var (pv 0)) (dg_tup (by rfl) (dgs_cons (dg_name (pg_name nd_letter_maps (by rfl) (by first | exact .inl rfl | exact .inr rfl))) (dgs_cons (dg_name (pg_name nd_letter_maps (by rfl) (by first | exact .inl rfl | exact .inr rfl))) (dgs_cons (dg_name (pg_name nd_letter_maps (by rfl) (by first | exact .inl rfl | exact .inr rfl))) dgs_nil))))) fun _ _ _ q => q)
  (dss_one (ds_ret (de_fz (dl_lc (own := [("letter", 4)]) (by rfl) nd_letter_maps (di_range1 (by rfl) h.n_range (da_cons (de_var (pv 1)) da_nil)) (blkOk_by (by kernel_rfl)) (fun _ _ _ _ _ => (dg_name (pg_name nd_letter_maps (by rfl) (by first | exact .inl rfl | exact .inr rfl)))) (fun _ _ _ _ _ => dts_nil) (fun _ _ _ _ _ => (de_x (dx_tuple (by rfl) h.n_tuple (da_o (do_v (de_fz (dl_lc (own := [("row", 5)]) (by rfl) nd_letter_maps (di_seq (de_var (pv 2))) (blkOk_by (by kernel_rfl)) (fun _ _ _ _ _ => (dg_name (pg_name nd_letter_maps (by rfl) (by first | exact .inl rfl | exact .inr rfl)))) (fun _ _ _ _ _ => dts_nil) (fun _ _ _ _ _ => (de_ix (do_n (pv 5)) (do_n (pv 4)) (by intro _ _; rfl) (hu := (ru hr))))))) da_nil)))))))))
theorem nd_are_one_to_one : (["question", "row"] : List Str).Nodup := by decide +kernel
theorem sc_are_one_to_one : FnScope ["question", "row"] ["question"] (defScope (top 57)) := ⟨rfl, rfl, rfl, nd_are_one_to_one, rfl, by decide +kernel, by decide +kernel⟩
theorem bi_are_one_to_one (h : GOk K mg base w g) : Binds K g.d_are_one_to_one ["question"] [] := h.F_are_one_to_one.bindsN fun _ _ _ _ _ _ us hl => match us, hl with | [_], _ => rfl
theorem len_are_one_to_one (sl : List Sl) (e : sl.length ≠ 1) : D_are_one_to_one sl = .st := fnOf_len _ e
theorem ok_are_one_to_one (h : GOk K mg base w g) : FnOk P w K mg base (L2.CX P w) 5 g.f_are_one_to_one g.d_are_one_to_one ["question"] (SpOf K (tgOf w g.tg) 1 D_are_one_to_one) :=
  def_okC (k := 4) (h.F_are_one_to_one) h.k_are_one_to_one sc_are_one_to_one rfl rfl fun A outer s H E hr => (dss_one (ds_ret (de_all (k := 1) (own := [("row", 1)]) (hr.mono (by omega)) (by rfl) nd_are_one_to_one (by rfl) h.n_all h.t_are_one_to_one (tg_are_one_to_one h) (by rfl) (gnS_by (by kernel_rfl)) (di_seq (de_call (ok_letter_maps h) len_letter_maps (hr.mono (by omega)) (by rfl) h.m_letter_maps h.F_letter_maps.kp (bi_letter_maps h) (Air.of (takes_def (CXx := L2.CX P w))) (da_cons (de_var (pv 0)) da_nil))) ⟨(fun A1 _ _ _ _ _ _ hr1 => (dg_name (pg_name nd_are_one_to_one (by rfl) (by first | exact .inl rfl | exact .inr rfl)))), (fun A1 _ _ _ _ _ _ hr1 => dts_nil), (fun A1 _ _ _ _ _ _ hr1 => (dc_eq (ru hr1) (by rfl) (do_v (de_lenSet (by rfl) (by rfl) h.n_len (by rfl) h.n_set (do_n (pv 1)))) (do_v (de_x (dx_len (by rfl) h.n_len (da_o (do_n (pv 1)) da_nil))))).ve)⟩)))
theorem nd_then : (["one", "other", "state"] : List Str).Nodup := by decide +kernel
theorem sc_then : FnScope ["one", "other", "state"] ["one", "other"] (defScope (top 27)) := ⟨rfl, rfl, rfl, nd_then, rfl, by decide +kernel, by decide +kernel⟩
theorem bi_then (h : GOk K mg base w g) : Binds K g.d_then ["one", "other"] [] := h.F_then.bindsN fun _ _ _ _ _ _ us hl => match us, hl with | [_, _], _ => rfl
theorem len_then (sl : List Sl) (e : sl.length ≠ 2) : D_then sl = .st := fnOf_len _ e
theorem ok_then (h : GOk K mg base w g) : FnOk P w K mg base (L2.CX P w) 1 g.f_then g.d_then ["one", "other"] (SpOf K (tgOf w g.tg) 2 D_then) :=
  def_ok (k := 0) (h.F_then) sc_then rfl rfl fun cdv A outer s H E hr => (dss_one (ds_ret (de_x (dx_tuple (by rfl) h.n_tuple (da_o (do_v (de_fz (dl_lc (own := [("state", 2)]) (by rfl) nd_then (di_seq (de_var (pv 0))) (blkOk_by (by kernel_rfl)) (fun _ _ _ _ _ => (dg_name (pg_name nd_then (by rfl) (by first | exact .inl rfl | exact .inr rfl)))) (fun _ _ _ _ _ => dts_nil) (fun _ _ _ _ _ => (de_ix (do_n (pv 1)) (do_n (pv 2)) (by intro _ _; rfl) (hu := (ru hr))))))) da_nil)))))
theorem nd_do_commute : (["question", "rows", "one", "other"] : List Str).Nodup := by decide +kernel
theorem sc_do_commute : FnScope ["question", "rows", "one", "other"] ["question"] (defScope (top 58)) := ⟨rfl, rfl, rfl, nd_do_commute, rfl, by decide +kernel, by decide +kernel⟩
theorem bi_do_commute (h : GOk K mg base w g) : Binds K g.d_do_commute ["question"] [] := h.F_do_commute.bindsN fun _ _ _ _ _ _ us hl => match us, hl with | [_], _ => rfl
theorem len_do_commute (sl : List Sl) (e : sl.length ≠ 1) : D_do_commute sl = .st := fnOf_len _ e
theorem ok_do_commute (h : GOk K mg base w g) : FnOk P w K mg base (L2.CX P w) 5 g.f_do_commute g.d_do_commute ["question"] (SpOf K (tgOf w g.tg) 1 D_do_commute) :=
  def_okC (k := 4) (h.F_do_commute) h.k_do_commute sc_do_commute rfl rfl fun A outer s H E hr => (dss_cons (ds_setN (i := 1) nd_do_commute (by rfl) (by first | exact .inl rfl | exact .inr rfl) (dx_v (de_call (ok_letter_maps h) len_letter_maps (hr.mono (by omega)) (by rfl) h.m_letter_maps h.F_letter_maps.kp (bi_letter_maps h) (Air.of (takes_def (CXx := L2.CX P w))) (da_cons (de_var (pv 0)) da_nil))) (by rfl) (by first | exact .inl rfl | exact .inr rfl))
  (dss_one (ds_ret (de_all2 (k := 1) (own := [("one", 2), ("other", 3)]) (ow1 := [3]) (hr.mono (by omega)) (by rfl) nd_do_commute (by rfl) h.n_all h.t_do_commute (tg_do_commute h) (by rfl) (gnS_by (by kernel_rfl)) (di_seq (de_var (pv 1))) ⟨(fun A1 _ _ _ _ _ _ hr1 => (dg_name (pg_name nd_do_commute (by rfl) (by first | exact .inl rfl | exact .inr rfl)))), (fun A1 _ _ _ _ _ _ hr1 => dts_nil), (fun A1 _ _ _ _ _ _ hr1 => (di_seq (de_var (pv 1)))), (fun A1 _ _ _ _ _ _ hr1 => (dg_name (pg_name nd_do_commute (by rfl) (by first | exact .inl rfl | exact .inr rfl)))), (fun A1 _ _ _ _ _ _ hr1 => dts_nil), (fun A1 _ _ _ _ _ _ hr1 => (dc_eq (ru hr1) (by rfl) (do_v (de_call (ok_then h) len_then (hr1.mono (by omega)) (by rfl) h.m_then h.F_then.kp (bi_then h) Air.none (da_cons (de_var (pv 2)) (da_cons (de_var (pv 3)) da_nil)))) (do_v (de_call (ok_then h) len_then (hr1.mono (by omega)) (by rfl) h.m_then h.F_then.kp (bi_then h) Air.none (da_cons (de_var (pv 3)) (da_cons (de_var (pv 2)) da_nil))))).ve)⟩))))
theorem nd_can : (["world", "question"] : List Str).Nodup := by decide +kernel
theorem sc_can : FnScope ["world", "question"] ["world", "question"] (defScope (top 59)) := ⟨rfl, rfl, rfl, nd_can, rfl, by decide +kernel, by decide +kernel⟩
theorem bi_can (h : GOk K mg base w g) : Binds K g.d_can ["world", "question"] [] := h.F_can.bindsN fun _ _ _ _ _ _ us hl => match us, hl with | [_, _], _ => rfl
theorem len_can (sl : List Sl) (e : sl.length ≠ 2) : D_can sl = .st := fnOf_len _ e
theorem ok_can (h : GOk K mg base w g) : FnOk P w K mg base (L2.CX P w) 6 g.f_can g.d_can ["world", "question"] (SpOf K (tgOf w g.tg) 2 D_can) :=
  def_ok (k := 5) (h.F_can) sc_can rfl rfl fun cdv A outer s H E hr => (dss_cons (ds_if (dw_and (dc_in (ru hr) (by rfl) (do_n (pv 0)) (do_v (de_con (by rfl) h.con_ONE_TO_ONE))).vt (dw_and1 (dt_not (dt_val (de_call (ok_are_one_to_one h) len_are_one_to_one (hr.mono (by omega)) (by rfl) h.m_are_one_to_one h.F_are_one_to_one.kp (bi_are_one_to_one h) (Air.of (takes_def (CXx := L2.CX P w))) (da_cons (de_var (pv 1)) da_nil)))))).dt (dss_one (ds_ret de_bl)) dss_nil)
  (dss_one (ds_ret (de_or (dc_notin (ru hr) (by rfl) (do_n (pv 0)) (do_v (de_con (by rfl) h.con_ORDERLESS))).ve (de_one (de_call (ok_do_commute h) len_do_commute (hr.mono (by omega)) (by rfl) h.m_do_commute h.F_do_commute.kp (bi_do_commute h) (Air.of (takes_def (CXx := L2.CX P w))) (da_cons (de_var (pv 1)) da_nil)))))))
theorem nd_done : (["world", "text", "edit", "kind", "letter"] : List Str).Nodup := by decide +kernel
theorem sc_done : FnScope ["world", "text", "edit", "kind", "letter"] ["world", "text", "edit"] (defScope (top 50)) := ⟨rfl, rfl, rfl, nd_done, rfl, by decide +kernel, by decide +kernel⟩
theorem bi_done (h : GOk K mg base w g) : Binds K g.d_done ["world", "text", "edit"] [] := h.F_done.bindsN fun _ _ _ _ _ _ us hl => match us, hl with | [_, _, _], _ => rfl
theorem len_done (sl : List Sl) (e : sl.length ≠ 3) : D_done sl = .st := fnOf_len _ e
theorem ok_done (h : GOk K mg base w g) : FnOk P w K mg base (L2.CX P w) 1 g.f_done g.d_done ["world", "text", "edit"] (SpOf K (tgOf w g.tg) 3 D_done) :=
  def_ok (k := 0) (h.F_done) sc_done rfl rfl fun cdv A outer s H E hr => (dss_cons (ds_setN (i := 3) nd_done (by rfl) (by first | exact .inl rfl | exact .inr rfl) (dx_v (de_ix (do_n (pv 2)) (do_v de_int) (by intro _ _; rfl) (hu := (ru hr)))) (by rfl) (by first | exact .inl rfl | exact .inr rfl))
  (dss_cons (ds_if (dc_eq (ru hr) (by rfl) (do_n (pv 3)) (do_v de_str)).vt (dss_one (ds_ret (de_x (dx_if (dc_eq (ru hr) (by rfl) (do_n (pv 0)) (do_v de_str)).vt (dx_tuple (by rfl) h.n_tuple (da_o (do_v (de_fz (dl_lc (own := [("letter", 4)]) (by rfl) nd_done (di_seq (de_var (pv 1))) (blkOk_by (by kernel_rfl)) (fun _ _ _ _ _ => (dg_name (pg_name nd_done (by rfl) (by first | exact .inl rfl | exact .inr rfl)))) (fun _ _ _ _ _ => dts_nil) (fun _ _ _ _ _ => (de_ix (do_v (de_ix (do_n (pv 2)) (do_v de_int) (by intro _ _; rfl) (hu := (ru hr)))) (do_n (pv 4)) (by intro _ _; rfl) (hu := (ru hr))))))) da_nil)) (dx_v (de_revT (de_var (pv 1)))))))) dss_nil)
  (dss_cons (ds_if (dc_eq (ru hr) (by rfl) (do_n (pv 3)) (do_v de_str)).vt (dss_one (ds_ret (de_x (dx_sl (do_n (pv 1)) dp_no (dp_at (de_neg de_int)))))) dss_nil)
  (dss_cons (ds_if (dc_eq (ru hr) (by rfl) (do_n (pv 3)) (do_v de_str)).vt (dss_one (ds_ret (de_x (dx_sl (do_n (pv 1)) (dp_at de_int) dp_no)))) dss_nil)
  (dss_cons (ds_if (dc_eq (ru hr) (by rfl) (do_n (pv 3)) (do_v de_str)).vt (dss_one (ds_ret (de_x (dx_add (do_v (de_tup (da_cons (de_ix (do_n (pv 2)) (do_v de_int) (by intro _ _; rfl) (hu := (ru hr))) da_nil))) (do_n (pv 1)))))) dss_nil)
  (dss_cons (ds_if (dc_notin (ru hr) (by rfl) (do_n (pv 0)) (do_v (de_con (by rfl) h.con_HIDDEN))).vt (dss_one (ds_ret (de_x (dx_add (do_n (pv 1)) (do_v (de_tup (da_cons (de_ix (do_n (pv 2)) (do_v de_int) (by intro _ _; rfl) (hu := (ru hr))) da_nil))))))) dss_nil)
  (dss_cons (ds_if (dc_eq (ru hr) (by rfl) (do_n (pv 3)) (do_v de_str)).vt (dss_one (ds_ret (de_x (dx_add (do_v (de_x (dx_sl (do_n (pv 1)) dp_no (dp_at (de_ix (do_n (pv 2)) (do_v de_int) (by intro _ _; rfl) (hu := (ru hr))))))) (do_v (de_x (dx_sl (do_n (pv 1)) (dp_at (de_x (dx_add (do_v (de_ix (do_n (pv 2)) (do_v de_int) (by intro _ _; rfl) (hu := (ru hr)))) (do_v de_int)))) dp_no))))))) dss_nil)
  (dss_one (ds_ret (de_x (dx_add (do_v (de_x (dx_add (do_v (de_x (dx_sl (do_n (pv 1)) dp_no (dp_at (de_ix (do_n (pv 2)) (do_v de_int) (by intro _ _; rfl) (hu := (ru hr))))))) (do_v (de_tup (da_cons (de_ix (do_n (pv 2)) (do_v de_int) (by intro _ _; rfl) (hu := (ru hr))) da_nil)))))) (do_v (de_x (dx_sl (do_n (pv 1)) (dp_at (de_ix (do_n (pv 2)) (do_v de_int) (by intro _ _; rfl) (hu := (ru hr)))) dp_no))))))))))))))
theorem nd_orders : (["many", "found", "_", "row", "one"] : List Str).Nodup := by decide +kernel
theorem sc_orders : FnScope ["many", "found", "_", "row", "one"] ["many"] (defScope (top 44)) := ⟨rfl, rfl, rfl, nd_orders, rfl, by decide +kernel, by decide +kernel⟩
theorem bi_orders (h : GOk K mg base w g) : Binds K g.d_orders ["many"] [] := h.F_orders.bindsN fun _ _ _ _ _ _ us hl => match us, hl with | [_], _ => rfl
theorem len_orders (sl : List Sl) (e : sl.length ≠ 1) : D_orders sl = .st := fnOf_len _ e
theorem ok_orders (h : GOk K mg base w g) : FnOk P w K mg base (L2.CX P w) 1 g.f_orders g.d_orders ["many"] (SpOf K (tgOf w g.tg) 1 D_orders) :=
  def_ok (k := 0) (h.F_orders) sc_orders rfl rfl fun cdv A outer s H E hr => (dss_cons (ds_setN (i := 1) nd_orders (by rfl) (by first | exact .inl rfl | exact .inr rfl) (dx_l (dl_lst (da_cons (de_tup da_nil) da_nil))) (by rfl) (by first | exact .inl rfl | exact .inr rfl))
  (dss_cons (ds_for passes_def (by rfl) (di_range1 (by rfl) h.n_range (da_cons (de_var (pv 0)) da_nil)) (dg_name (pg_name nd_orders (by rfl) (by first | exact .inl rfl | exact .inr rfl))) (dss_one (ds_setLc2 (i := 1) (own := [("row", 3), ("one", 4)]) (ow1 := [4]) (by rfl) nd_orders (by rfl) (by rfl) (sw_true (by rfl) (by rfl) (by rfl) (by rfl)) (di_seq (de_var (pv 1))) (blkOk_by (by kernel_rfl)) (fun _ _ _ _ _ => (dg_name (pg_name nd_orders (by rfl) (by first | exact .inl rfl | exact .inr rfl)))) (fun _ _ _ _ _ => dts_nil) (fun _ _ _ _ _ => (di_range1 (by rfl) h.n_range (da_cons (de_var (pv 0)) da_nil))) (fun _ _ _ _ _ => (dg_name (pg_name nd_orders (by rfl) (by first | exact .inl rfl | exact .inr rfl)))) (fun _ _ _ _ _ => (dts_one (dc_notin (ru hr) (by rfl) (do_n (pv 4)) (do_n (pv 3))).vt)) (fun _ _ _ _ _ => (de_x (dx_add (do_n (pv 3)) (do_v (de_tup (da_cons (de_var (pv 4)) da_nil)))))))))
  (dss_one (ds_ret (de_x (dx_sorted (ru hr) (by rfl) h.n_sorted (da_o (do_n (pv 1)) da_nil)))))))
theorem nd_all_messages : (["world", "letters", "found", "kind", "letter", "row"] : List Str).Nodup := by decide +kernel
theorem sc_all_messages : FnScope ["world", "letters", "found", "kind", "letter", "row"] ["world", "letters"] (defScope (top 45)) := ⟨rfl, rfl, rfl, nd_all_messages, rfl, by decide +kernel, by decide +kernel⟩
theorem bi_all_messages (h : GOk K mg base w g) : Binds K g.d_all_messages ["world", "letters"] [] := h.F_all_messages.bindsN fun _ _ _ _ _ _ us hl => match us, hl with | [_, _], _ => rfl
theorem len_all_messages (sl : List Sl) (e : sl.length ≠ 2) : D_all_messages sl = .st := fnOf_len _ e
theorem ok_all_messages (h : GOk K mg base w g) : FnOk P w K mg base (L2.CX P w) 2 g.f_all_messages g.d_all_messages ["world", "letters"] (SpOf K (tgOf w g.tg) 2 D_all_messages) :=
  def_ok (k := 1) (h.F_all_messages) sc_all_messages rfl rfl fun cdv A outer s H E hr => (dss_cons (ds_setLc2 (i := 2) (own := [("kind", 3), ("letter", 4)]) (ow1 := [4]) (by rfl) nd_all_messages (by rfl) (by rfl) (sw_true (by rfl) (by rfl) (by rfl) (by rfl)) (di_seq (de_kix (by rfl) h.tab_KINDS_worlds (de_var (pv 0)) (by intro _ _; rfl))) (blkOk_by (by kernel_rfl)) (fun _ _ _ _ _ => (dg_name (pg_name nd_all_messages (by rfl) (by first | exact .inl rfl | exact .inr rfl)))) (fun _ _ _ _ _ => dts_nil) (fun _ _ _ _ _ => (di_range1 (by rfl) h.n_range (da_cons (de_var (pv 1)) da_nil))) (fun _ _ _ _ _ => (dg_name (pg_name nd_all_messages (by rfl) (by first | exact .inl rfl | exact .inr rfl)))) (fun _ _ _ _ _ => dts_nil) (fun _ _ _ _ _ => (de_tup (da_cons (de_var (pv 3)) (da_cons (de_var (pv 4)) da_nil)))))
  (dss_cons (ds_if (dc_eq (ru hr) (by rfl) (do_n (pv 0)) (do_v de_str)).vt (dss_one (ds_iadd nd_all_messages (i := 2) (by rfl) (by first | exact .inl rfl | exact .inr rfl) (de_fz (dl_lc (own := [("row", 5)]) (by rfl) nd_all_messages (di_seq (de_call (ok_orders h) len_orders (hr.mono (by omega)) (by rfl) h.m_orders h.F_orders.kp (bi_orders h) (Air.of (takes_def (CXx := L2.CX P w))) (da_cons (de_var (pv 1)) da_nil))) (blkOk_by (by kernel_rfl)) (fun _ _ _ _ _ => (dg_name (pg_name nd_all_messages (by rfl) (by first | exact .inl rfl | exact .inr rfl)))) (fun _ _ _ _ _ => dts_nil) (fun _ _ _ _ _ => (de_tup (da_cons de_str (da_cons (de_var (pv 5)) da_nil)))))) (by first | exact .inl rfl | exact .inr rfl))) dss_nil)
  (dss_cons (ds_if (dc_eq (ru hr) (by rfl) (do_n (pv 0)) (do_v de_str)).vt (dss_one (ds_expr (de_append (pv 2) (da_cons (de_tup (da_cons de_str da_nil)) da_nil)))) dss_nil)
  (dss_one (ds_ret (de_x (dx_sorted (ru hr) (by rfl) h.n_sorted (da_o (do_n (pv 2)) da_nil))))))))
theorem nd_memories : (["world", "letters", "value", "row", "every", "found", "message"] : List Str).Nodup := by decide +kernel
theorem sc_memories : FnScope ["world", "letters", "value", "row", "every", "found", "message"] ["world", "letters", "value", "row"] (defScope (top 65)) := ⟨rfl, rfl, rfl, nd_memories, rfl, by decide +kernel, by decide +kernel⟩
theorem bi_memories (h : GOk K mg base w g) : Binds K g.d_memories ["world", "letters", "value", "row"] [] := h.F_memories.bindsN fun _ _ _ _ _ _ us hl => match us, hl with | [_, _, _, _], _ => rfl
theorem len_memories (sl : List Sl) (e : sl.length ≠ 4) : D_memories sl = .st := fnOf_len _ e
theorem ok_memories (h : GOk K mg base w g) : FnOk P w K mg base (L2.CX P w) 3 g.f_memories g.d_memories ["world", "letters", "value", "row"] (SpOf K (tgOf w g.tg) 4 D_memories) :=
  def_ok (k := 2) (h.F_memories) sc_memories rfl rfl fun cdv A outer s H E hr => (dss_cons (ds_setN (i := 4) nd_memories (by rfl) (by first | exact .inl rfl | exact .inr rfl) (dx_v (de_call (ok_all_messages h) len_all_messages (hr.mono (by omega)) (by rfl) h.m_all_messages h.F_all_messages.kp (bi_all_messages h) (Air.of (takes_def (CXx := L2.CX P w))) (da_cons (de_var (pv 0)) (da_cons (de_var (pv 1)) da_nil)))) (by rfl) (by first | exact .inl rfl | exact .inr rfl))
  (dss_cons (ds_setN (i := 5) nd_memories (by rfl) (by first | exact .inl rfl | exact .inr rfl) (dx_l (dl_lst (da_cons de_int da_nil))) (by rfl) (by first | exact .inl rfl | exact .inr rfl))
  (dss_cons (ds_for passes_def (by rfl) (di_seq (de_var (pv 3))) (dg_name (pg_name nd_memories (by rfl) (by first | exact .inl rfl | exact .inr rfl))) (dss_one (ds_expr (de_append (pv 5) (da_cons (de_ix (do_v (de_ix (do_v (de_ix (do_n (pv 2)) (do_v de_int) (by intro _ _; rfl) (hu := (ru hr)))) (do_v (de_ix (do_n (pv 5)) (do_v (de_neg de_int)) (by intro _ _; rfl) (hu := (ru hr)))) (by intro _ _; rfl) (hu := (ru hr)))) (do_v (de_index (ru hr) (do_n (pv 4)) (da_o (do_n (pv 6)) da_nil))) (by intro _ _; rfl) (hu := (ru hr))) da_nil)))))
  (dss_one (ds_ret (de_var (pv 5)))))))
theorem nd_message_of : (["world", "edit"] : List Str).Nodup := by decide +kernel
theorem sc_message_of : FnScope ["world", "edit"] ["world", "edit"] (defScope (top 46)) := ⟨rfl, rfl, rfl, nd_message_of, rfl, by decide +kernel, by decide +kernel⟩
theorem bi_message_of (h : GOk K mg base w g) : Binds K g.d_message_of ["world", "edit"] [] := h.F_message_of.bindsN fun _ _ _ _ _ _ us hl => match us, hl with | [_, _], _ => rfl
theorem len_message_of (sl : List Sl) (e : sl.length ≠ 2) : D_message_of sl = .st := fnOf_len _ e
theorem ok_message_of (h : GOk K mg base w g) : FnOk P w K mg base (L2.CX P w) 1 g.f_message_of g.d_message_of ["world", "edit"] (SpOf K (tgOf w g.tg) 2 D_message_of) :=
  def_ok (k := 0) (h.F_message_of) sc_message_of rfl rfl fun cdv A outer s H E hr => (dss_one (ds_ret (de_x (dx_if (dc_in (ru hr) (by rfl) (do_n (pv 0)) (do_v (de_con (by rfl) h.con_HIDDEN))).vt (dx_sl (do_n (pv 1)) dp_no (dp_at de_int)) (dx_v (de_var (pv 1)))))))
theorem nd_is_like : (["one", "other", "part", "own"] : List Str).Nodup := by decide +kernel
theorem sc_is_like : FnScope ["one", "other", "part", "own"] ["one", "other"] (defScope (top 48)) := ⟨rfl, rfl, rfl, nd_is_like, rfl, by decide +kernel, by decide +kernel⟩
theorem bi_is_like (h : GOk K mg base w g) : Binds K g.d_is_like ["one", "other"] [] := h.F_is_like.bindsN fun _ _ _ _ _ _ us hl => match us, hl with | [_, _], _ => rfl
theorem len_is_like : ∀ n sl, sl.length ≠ 2 → D_is_like n sl = .st
  | 0, _, e => fnOf_len _ e
  | _ + 1, _, e => fnOf_len _ e
theorem ok_is_like (h : GOk K mg base w g) : ∀ n, FnOk P w K mg base (L2.CX P w) (4 * n + 4) g.f_is_like g.d_is_like ["one", "other"] (SpOf K (tgOf w g.tg) 2 (D_is_like n))
  | 0 => (def_okC (h.F_is_like) h.k_is_like sc_is_like rfl rfl fun A outer s H E hr => dss_never : FnOk P w K mg base (L2.CX P w) (3 + 1) _ _ _ (SpOf K (tgOf w g.tg) 2 (fnOf 2 4 .st)))
  | n + 1 => by
    have ih := ok_is_like h n
    exact (def_okC (h.F_is_like) h.k_is_like sc_is_like rfl rfl fun A outer s H E hr => (dss_cons (ds_if (dt_val (de_isi isT_tuple (by rfl) h.n_isinstance (by rfl) h.n_tuple (by rfl) (do_n (pv 1)))) (dss_cons (ds_if (dw_or (dt_not (dt_val (de_isi isT_tuple (by rfl) h.n_isinstance (by rfl) h.n_tuple (by rfl) (do_n (pv 0))))) (dw_or1 (dc_ne (ru hr) (by rfl) (do_v (de_x (dx_len (by rfl) h.n_len (da_o (do_n (pv 0)) da_nil)))) (do_v (de_x (dx_len (by rfl) h.n_len (da_o (do_n (pv 1)) da_nil))))).vt)).dt (dss_one (ds_ret de_bl)) dss_nil)
  (dss_one (ds_ret (de_all (k := (4 * n + 4)) (own := [("part", 2), ("own", 3)]) (hr.mono (by omega)) (by rfl) nd_is_like (by rfl) h.n_all h.t_is_like (tg_is_like h) (by rfl) (gnS_by (by kernel_rfl)) (di_zip (by rfl) h.n_zip (da_cons (de_var (pv 0)) (da_cons (de_var (pv 1)) da_nil))) ⟨(fun A1 _ _ _ _ _ _ hr1 => (dg_tup (by rfl) (dgs_cons (dg_name (pg_name nd_is_like (by rfl) (by first | exact .inl rfl | exact .inr rfl))) (dgs_cons (dg_name (pg_name nd_is_like (by rfl) (by first | exact .inl rfl | exact .inr rfl))) dgs_nil)))), (fun A1 _ _ _ _ _ _ hr1 => dts_nil), (fun A1 _ _ _ _ _ _ hr1 => (de_call ih (len_is_like _) (hr1.mono (by omega)) (by rfl) h.m_is_like h.F_is_like.kp (bi_is_like h) Air.none (da_cons (de_var (pv 2)) (da_cons (de_var (pv 3)) da_nil))))⟩)))) dss_nil)
  (dss_cons (ds_if (dw_or (dt_val (de_isi isT_bool (by rfl) h.n_isinstance (by rfl) h.n_bool (by rfl) (do_n (pv 0)))) (dw_or1 (dc_ne (ru hr) (by rfl) (do_v (de_isi isT_str (by rfl) h.n_isinstance (by rfl) h.n_str (by rfl) (do_n (pv 0)))) (do_v (de_isi isT_str (by rfl) h.n_isinstance (by rfl) h.n_str (by rfl) (do_n (pv 1))))).vt)).dt (dss_one (ds_ret de_bl)) dss_nil)
  (dss_one (ds_ret (dc_eq (ru hr) (by rfl) (do_n (pv 0)) (do_n (pv 1))).ve)))) : FnOk P w K mg base (L2.CX P w) ((4 * n + 7) + 1) _ _ _ (SpOf K (tgOf w g.tg) 2 (D_is_like (n + 1))))
theorem nd_is_edit : (["world", "letters", "text", "value", "shown", "message", "kind"] : List Str).Nodup := by decide +kernel
theorem sc_is_edit : FnScope ["world", "letters", "text", "value", "shown", "message", "kind"] ["world", "letters", "text", "value"] (defScope (top 49)) := ⟨rfl, rfl, rfl, nd_is_edit, rfl, by decide +kernel, by decide +kernel⟩
theorem bi_is_edit (h : GOk K mg base w g) : Binds K g.d_is_edit ["world", "letters", "text", "value"] [] := h.F_is_edit.bindsN fun _ _ _ _ _ _ us hl => match us, hl with | [_, _, _, _], _ => rfl
theorem len_is_edit (sl : List Sl) (e : sl.length ≠ 4) : D_is_edit sl = .st := fnOf_len _ e
theorem ok_is_edit (h : GOk K mg base w g) : FnOk P w K mg base (L2.CX P w) 32 g.f_is_edit g.d_is_edit ["world", "letters", "text", "value"] (SpOf K (tgOf w g.tg) 4 D_is_edit) :=
  def_okC (k := 31) (h.F_is_edit) h.k_is_edit sc_is_edit rfl rfl fun A outer s H E hr => (dss_cons (ds_if (dw_or (dt_not (dt_val (de_isi isT_tuple (by rfl) h.n_isinstance (by rfl) h.n_tuple (by rfl) (do_n (pv 3))))) (dw_or1 (dt_not (dt_tr (de_var (pv 3)))))).dt (dss_one (ds_ret de_bl)) dss_nil)
  (dss_cons (ds_setN (i := 4) nd_is_edit (by rfl) (by first | exact .inl rfl | exact .inr rfl) (dx_if (dc_in (ru hr) (by rfl) (do_n (pv 0)) (do_v (de_con (by rfl) h.con_HIDDEN))).vt (dx_sl (do_n (pv 3)) dp_no (dp_at de_int)) (dx_v (de_var (pv 3)))) (by rfl) (by first | exact .inl rfl | exact .inr rfl))
  (dss_cons (ds_if (dt_not (dt_val (de_any (k := 28) (own := [("message", 5)]) (hr.mono (by omega)) (by rfl) nd_is_edit (by rfl) h.n_any h.t_is_edit (tg_is_edit h) (by rfl) (gnS_by (by kernel_rfl)) (di_seq (de_call (ok_all_messages h) len_all_messages (hr.mono (by omega)) (by rfl) h.m_all_messages h.F_all_messages.kp (bi_all_messages h) (Air.of (takes_def (CXx := L2.CX P w))) (da_cons (de_var (pv 0)) (da_cons (de_var (pv 1)) da_nil)))) ⟨(fun A1 _ _ _ _ _ _ hr1 => (dg_name (pg_name nd_is_edit (by rfl) (by first | exact .inl rfl | exact .inr rfl)))), (fun A1 _ _ _ _ _ _ hr1 => dts_nil), (fun A1 _ _ _ _ _ _ hr1 => (de_call (ok_is_like h 6) (len_is_like _) (hr1.mono (by omega)) (by rfl) h.m_is_like h.F_is_like.kp (bi_is_like h) Air.none (da_cons (de_var (pv 4)) (da_cons (de_var (pv 5)) da_nil))))⟩))) (dss_one (ds_ret de_bl)) dss_nil)
  (dss_cons (ds_setN (i := 6) nd_is_edit (by rfl) (by first | exact .inl rfl | exact .inr rfl) (dx_v (de_ix (do_n (pv 3)) (do_v de_int) (by intro _ _; rfl) (hu := (ru hr)))) (by rfl) (by first | exact .inl rfl | exact .inr rfl))
  (dss_cons (ds_if (dc_in (ru hr) (by rfl) (do_n (pv 0)) (do_v (de_con (by rfl) h.con_HIDDEN))).vt (dss_cons (ds_if (dw_or (dc_ne (ru hr) (by rfl) (do_v (de_x (dx_len (by rfl) h.n_len (da_o (do_n (pv 3)) da_nil)))) (do_v de_int)).vt (dw_or1 (dt_not (dt_val (de_call (ok_is_number h) len_is_number (hr.mono (by omega)) (by rfl) h.m_is_number h.F_is_number.kp (bi_is_number h) (Air.of (takes_def (CXx := L2.CX P w))) (da_cons (de_ix (do_n (pv 3)) (do_v de_int) (by intro _ _; rfl) (hu := (ru hr))) (da_cons de_int (da_cons (de_x (dx_len (by rfl) h.n_len (da_o (do_n (pv 2)) da_nil))) da_nil)))))))).dt (dss_one (ds_ret de_bl)) dss_nil)
  (dss_one (ds_if (dc_eq (ru hr) (by rfl) (do_n (pv 6)) (do_v de_str)).vt (dss_one (ds_ret (de_and (dc_lt (by rfl) (do_v (de_ix (do_n (pv 3)) (do_v de_int) (by intro _ _; rfl) (hu := (ru hr)))) (do_v (de_x (dx_len (by rfl) h.n_len (da_o (do_n (pv 2)) da_nil))))).ve (de_one (dc_eq (ru hr) (by rfl) (do_v (de_ix (do_n (pv 2)) (do_v (de_ix (do_n (pv 3)) (do_v de_int) (by intro _ _; rfl) (hu := (ru hr)))) (by intro _ _; rfl) (hu := (ru hr)))) (do_v (de_ix (do_n (pv 3)) (do_v de_int) (by intro _ _; rfl) (hu := (ru hr))))).ve)))) dss_nil))) dss_nil)
  (dss_cons (ds_if (dc_eq (ru hr) (by rfl) (do_n (pv 6)) (do_v de_str)).vt (dss_one (ds_ret (de_and (de_x (dx_bool (by rfl) h.n_bool (da_o (do_n (pv 2)) da_nil))) (de_one (dc_eq (ru hr) (by rfl) (do_v (de_ix (do_n (pv 2)) (do_v (de_neg de_int)) (by intro _ _; rfl) (hu := (ru hr)))) (do_v (de_ix (do_n (pv 3)) (do_v de_int) (by intro _ _; rfl) (hu := (ru hr))))).ve)))) dss_nil)
  (dss_cons (ds_if (dc_eq (ru hr) (by rfl) (do_n (pv 6)) (do_v de_str)).vt (dss_one (ds_ret (de_and (de_x (dx_bool (by rfl) h.n_bool (da_o (do_n (pv 2)) da_nil))) (de_one (dc_eq (ru hr) (by rfl) (do_v (de_ix (do_n (pv 2)) (do_v de_int) (by intro _ _; rfl) (hu := (ru hr)))) (do_v (de_ix (do_n (pv 3)) (do_v de_int) (by intro _ _; rfl) (hu := (ru hr))))).ve)))) dss_nil)
  (dss_one (ds_ret (de_or (dc_eq (ru hr) (by rfl) (do_n (pv 6)) (do_v de_str)).ve (de_one (dc_lt (by rfl) (do_v (de_x (dx_len (by rfl) h.n_len (da_o (do_n (pv 2)) da_nil)))) (do_v (de_con (by rfl) h.con_MOST_TEXT))).ve)))))))))))
theorem nd_first_wrong_edit : (["world", "letters", "value", "text", "index", "edit"] : List Str).Nodup := by decide +kernel
theorem sc_first_wrong_edit : FnScope ["world", "letters", "value", "text", "index", "edit"] ["world", "letters", "value"] (defScope (top 51)) := ⟨rfl, rfl, rfl, nd_first_wrong_edit, rfl, by decide +kernel, by decide +kernel⟩
theorem bi_first_wrong_edit (h : GOk K mg base w g) : Binds K g.d_first_wrong_edit ["world", "letters", "value"] [] := h.F_first_wrong_edit.bindsN fun _ _ _ _ _ _ us hl => match us, hl with | [_, _, _], _ => rfl
theorem len_first_wrong_edit (sl : List Sl) (e : sl.length ≠ 3) : D_first_wrong_edit sl = .st := fnOf_len _ e
theorem ok_first_wrong_edit (h : GOk K mg base w g) : FnOk P w K mg base (L2.CX P w) 33 g.f_first_wrong_edit g.d_first_wrong_edit ["world", "letters", "value"] (SpOf K (tgOf w g.tg) 3 D_first_wrong_edit) :=
  def_ok (k := 32) (h.F_first_wrong_edit) sc_first_wrong_edit rfl rfl fun cdv A outer s H E hr => (dss_cons (ds_setN (i := 3) nd_first_wrong_edit (by rfl) (by first | exact .inl rfl | exact .inr rfl) (dx_v (de_tup da_nil)) (by rfl) (by first | exact .inl rfl | exact .inr rfl))
  (dss_cons (ds_for passes_def (by rfl) (di_enum (by rfl) h.n_enumerate (da_cons (de_var (pv 2)) da_nil)) (dg_tup (by rfl) (dgs_cons (dg_name (pg_name nd_first_wrong_edit (by rfl) (by first | exact .inl rfl | exact .inr rfl))) (dgs_cons (dg_name (pg_name nd_first_wrong_edit (by rfl) (by first | exact .inl rfl | exact .inr rfl))) dgs_nil))) (dss_cons (ds_if (dt_not (dt_val (de_call (ok_is_edit h) len_is_edit (hr.mono (by omega)) (by rfl) h.m_is_edit h.F_is_edit.kp (bi_is_edit h) (Air.of (takes_def (CXx := L2.CX P w))) (da_cons (de_var (pv 0)) (da_cons (de_var (pv 1)) (da_cons (de_var (pv 3)) (da_cons (de_var (pv 5)) da_nil))))))) (dss_one (ds_ret (de_tup (da_cons (de_var (pv 3)) (da_cons (de_var (pv 4)) da_nil))))) dss_nil)
  (dss_one (ds_setN (i := 3) nd_first_wrong_edit (by rfl) (by first | exact .inl rfl | exact .inr rfl) (dx_v (de_call (ok_done h) len_done (hr.mono (by omega)) (by rfl) h.m_done h.F_done.kp (bi_done h) (Air.of (takes_def (CXx := L2.CX P w))) (da_cons (de_var (pv 0)) (da_cons (de_var (pv 3)) (da_cons (de_var (pv 5)) da_nil))))) (by rfl) (by first | exact .inl rfl | exact .inr rfl)))))
  (dss_one (ds_ret (de_tup (da_cons (de_var (pv 3)) (da_cons de_non da_nil)))))))
theorem nd_need_edits : (["world", "letters", "value", "text", "wrong"] : List Str).Nodup := by decide +kernel
theorem sc_need_edits : FnScope ["world", "letters", "value", "text", "wrong"] ["world", "letters", "value"] (defScope (top 52)) := ⟨rfl, rfl, rfl, nd_need_edits, rfl, by decide +kernel, by decide +kernel⟩
theorem bi_need_edits (h : GOk K mg base w g) : Binds K g.d_need_edits ["world", "letters", "value"] [] := h.F_need_edits.bindsN fun _ _ _ _ _ _ us hl => match us, hl with | [_, _, _], _ => rfl
theorem len_need_edits (sl : List Sl) (e : sl.length ≠ 3) : D_need_edits sl = .st := fnOf_len _ e
theorem ok_need_edits (h : GOk K mg base w g) : FnOk P w K mg base (L2.CX P w) 34 g.f_need_edits g.d_need_edits ["world", "letters", "value"] (SpOf K (tgOf w g.tg) 3 D_need_edits) :=
  def_ok (k := 33) (h.F_need_edits) sc_need_edits rfl rfl fun cdv A outer s H E hr => (dss_cons (ds_if (dw_or (dt_not (dt_val (de_isi isT_tuple (by rfl) h.n_isinstance (by rfl) h.n_tuple (by rfl) (do_n (pv 2))))) (dw_or1 (dc_gt (by rfl) (do_v (de_x (dx_len (by rfl) h.n_len (da_o (do_n (pv 2)) da_nil)))) (do_v (de_con (by rfl) h.con_MOST_EDITS))).vt)).dt (dss_one (ds_raise1 (k := 1) (by rfl) (takes_def (CXx := L2.CX P w)) h.x_BadEdits (ok_init_BadEdits h) (hr.mono (by omega)) (bi_init_BadEdits h) (by rfl) de_non)) dss_nil)
  (dss_cons (ds_asg (ps_asg (de_call (ok_first_wrong_edit h) len_first_wrong_edit (hr.mono (by omega)) (by rfl) h.m_first_wrong_edit h.F_first_wrong_edit.kp (bi_first_wrong_edit h) (Air.of (takes_def (CXx := L2.CX P w))) (da_cons (de_var (pv 0)) (da_cons (de_var (pv 1)) (da_cons (de_var (pv 2)) da_nil)))) (dg_tup (by rfl) (dgs_cons (dg_name (pg_name nd_need_edits (by rfl) (by first | exact .inl rfl | exact .inr rfl))) (dgs_cons (dg_name (pg_name nd_need_edits (by rfl) (by first | exact .inl rfl | exact .inr rfl))) dgs_nil)))) fun _ _ _ q => q)
  (dss_cons (ds_if (dc_isnot (by rfl) (do_n (pv 4)) (do_v de_non)).vt (dss_one (ds_raise1 (k := 1) (by rfl) (takes_def (CXx := L2.CX P w)) h.x_BadEdits (ok_init_BadEdits h) (hr.mono (by omega)) (bi_init_BadEdits h) (by rfl) (de_var (pv 4)))) dss_nil)
  (dss_one (ds_ret (de_var (pv 3)))))))
theorem nd_need_world : (["value"] : List Str).Nodup := by decide +kernel
theorem sc_need_world : FnScope ["value"] ["value"] (defScope (top 43)) := ⟨rfl, rfl, rfl, nd_need_world, rfl, by decide +kernel, by decide +kernel⟩
theorem bi_need_world (h : GOk K mg base w g) : Binds K g.d_need_world ["value"] [] := h.F_need_world.bindsN fun _ _ _ _ _ _ us hl => match us, hl with | [_], _ => rfl
theorem len_need_world (sl : List Sl) (e : sl.length ≠ 1) : D_need_world sl = .st := fnOf_len _ e
theorem ok_need_world (h : GOk K mg base w g) : FnOk P w K mg base (L2.CX P w) 3 g.f_need_world g.d_need_world ["value"] (SpOf K (tgOf w g.tg) 1 D_need_world) :=
  def_ok (k := 2) (h.F_need_world) sc_need_world rfl rfl fun cdv A outer s H E hr => (dss_one (ds_if (dw_or (dt_not (dt_val (de_isi isT_str (by rfl) h.n_isinstance (by rfl) h.n_str (by rfl) (do_n (pv 0))))) (dw_or1 (dc_notin (ru hr) (by rfl) (do_n (pv 0)) (do_v (de_con (by rfl) h.con_WORLDS))).vt)).dt (dss_one (ds_raise0 (by rfl) (takes_def (CXx := L2.CX P w)) h.x_BadWorld (by rfl))) dss_nil))
theorem nd_made : (["world", "question", "maker", "every", "numbers", "order", "steps", "at", "row", "message", "later", "memory"] : List Str).Nodup := by decide +kernel
theorem sc_made : FnScope ["world", "question", "maker", "every", "numbers", "order", "steps", "at", "row", "message", "later", "memory"] ["world", "question"] (defScope (top 62)) := ⟨rfl, rfl, rfl, nd_made, rfl, by decide +kernel, by decide +kernel⟩
theorem bi_made (h : GOk K mg base w g) : Binds K g.d_made ["world", "question"] [] := h.F_made.bindsN fun _ _ _ _ _ _ us hl => match us, hl with | [_, _], _ => rfl
theorem len_made (sl : List Sl) (e : sl.length ≠ 2) : D_made sl = .st := fnOf_len _ e
theorem ok_made (h : GOk K mg base w g) : FnOk P w K mg base (L2.CX P w) 3 g.f_made g.d_made ["world", "question"] (SpOf K (tgOf w g.tg) 2 D_made) :=
  def_ok (k := 2) (h.F_made) sc_made rfl rfl fun cdv A outer s H E hr => dss_never
theorem nd_right_keeper : (["world", "question", "small"] : List Str).Nodup := by decide +kernel
theorem sc_right_keeper : FnScope ["world", "question", "small"] ["world", "question"] (defScope (top 63)) := ⟨rfl, rfl, rfl, nd_right_keeper, rfl, by decide +kernel, by decide +kernel⟩
theorem bi_right_keeper (h : GOk K mg base w g) : Binds K g.d_right_keeper ["world", "question"] [] := h.F_right_keeper.bindsN fun _ _ _ _ _ _ us hl => match us, hl with | [_, _], _ => rfl
theorem len_right_keeper (sl : List Sl) (e : sl.length ≠ 2) : D_right_keeper sl = .st := fnOf_len _ e
theorem ok_right_keeper (h : GOk K mg base w g) : FnOk P w K mg base (L2.CX P w) 7 g.f_right_keeper g.d_right_keeper ["world", "question"] (SpOf K (tgOf w g.tg) 2 D_right_keeper) :=
  def_ok (k := 6) (h.F_right_keeper) sc_right_keeper rfl rfl fun cdv A outer s H E hr => (dss_cons (ds_setN (i := 2) nd_right_keeper (by rfl) (by first | exact .inl rfl | exact .inr rfl) (dx_v (de_call (ok_least_of h) len_least_of (hr.mono (by omega)) (by rfl) h.m_least_of h.F_least_of.kp (bi_least_of h) (Air.of (takes_def (CXx := L2.CX P w))) (da_cons (de_var (pv 1)) da_nil))) (by rfl) (by first | exact .inl rfl | exact .inr rfl))
  (dss_cons (ds_if (dt_not (dt_val (de_call (ok_can h) len_can (hr.mono (by omega)) (by rfl) h.m_can h.F_can.kp (bi_can h) (Air.of (takes_def (CXx := L2.CX P w))) (da_cons (de_var (pv 0)) (da_cons (de_var (pv 2)) da_nil))))) (dss_one (ds_raise0 (by rfl) (takes_def (CXx := L2.CX P w)) h.x_NoKeeper (by rfl))) dss_nil)
  (dss_one (ds_ret (de_call (ok_made h) len_made (hr.mono (by omega)) (by rfl) h.m_made h.F_made.kp (bi_made h) (Air.of (takes_def (CXx := L2.CX P w))) (da_cons (de_var (pv 0)) (da_cons (de_var (pv 2)) da_nil)))))))
theorem nd_tale : (["world", "question", "edits", "small", "keeper", "row", "edit", "states", "now", "found", "at"] : List Str).Nodup := by decide +kernel
theorem sc_tale : FnScope ["world", "question", "edits", "small", "keeper", "row", "edit", "states", "now", "found", "at"] ["world", "question", "edits"] (defScope (top 76)) := ⟨rfl, rfl, rfl, nd_tale, rfl, by decide +kernel, by decide +kernel⟩
theorem bi_tale (h : GOk K mg base w g) : Binds K g.d_tale ["world", "question", "edits"] [] := h.F_tale.bindsN fun _ _ _ _ _ _ us hl => match us, hl with | [_, _, _], _ => rfl
theorem len_tale (sl : List Sl) (e : sl.length ≠ 3) : D_tale sl = .st := fnOf_len _ e
theorem ok_tale (h : GOk K mg base w g) : FnOk P w K mg base (L2.CX P w) 35 g.f_tale g.d_tale ["world", "question", "edits"] (SpOf K (tgOf w g.tg) 3 D_tale) :=
  def_ok (k := 34) (h.F_tale) sc_tale rfl rfl fun cdv A outer s H E hr => (dss_cons (ds_expr (de_call (ok_need_world h) len_need_world (hr.mono (by omega)) (by rfl) h.m_need_world h.F_need_world.kp (bi_need_world h) (Air.of (takes_def (CXx := L2.CX P w))) (da_cons (de_var (pv 0)) da_nil)))
  (dss_cons (ds_expr (de_call (ok_need_question h) len_need_question (hr.mono (by omega)) (by rfl) h.m_need_question h.F_need_question.kp (bi_need_question h) (Air.of (takes_def (CXx := L2.CX P w))) (da_cons (de_var (pv 1)) da_nil)))
  (dss_cons (ds_expr (de_call (ok_need_edits h) len_need_edits (hr.mono (by omega)) (by rfl) h.m_need_edits h.F_need_edits.kp (bi_need_edits h) (Air.of (takes_def (CXx := L2.CX P w))) (da_cons (de_var (pv 0)) (da_cons (de_ix (do_n (pv 1)) (do_v de_int) (by intro _ _; rfl) (hu := (ru hr))) (da_cons (de_var (pv 2)) da_nil)))))
  (dss_cons (ds_setN (i := 3) nd_tale (by rfl) (by first | exact .inl rfl | exact .inr rfl) (dx_v (de_call (ok_least_of h) len_least_of (hr.mono (by omega)) (by rfl) h.m_least_of h.F_least_of.kp (bi_least_of h) (Air.of (takes_def (CXx := L2.CX P w))) (da_cons (de_var (pv 1)) da_nil))) (by rfl) (by first | exact .inl rfl | exact .inr rfl))
  (dss_cons (ds_if (dt_not (dt_val (de_call (ok_can h) len_can (hr.mono (by omega)) (by rfl) h.m_can h.F_can.kp (bi_can h) (Air.of (takes_def (CXx := L2.CX P w))) (da_cons (de_var (pv 0)) (da_cons (de_var (pv 3)) da_nil))))) (dss_one (ds_raise0 (by rfl) (takes_def (CXx := L2.CX P w)) h.x_NoKeeper (by rfl))) dss_nil)
  (dss_cons (ds_setN (i := 4) nd_tale (by rfl) (by first | exact .inl rfl | exact .inr rfl) (dx_v (de_call (ok_right_keeper h) len_right_keeper (hr.mono (by omega)) (by rfl) h.m_right_keeper h.F_right_keeper.kp (bi_right_keeper h) (Air.of (takes_def (CXx := L2.CX P w))) (da_cons (de_var (pv 0)) (da_cons (de_var (pv 1)) da_nil)))) (by rfl) (by first | exact .inl rfl | exact .inr rfl))
  (dss_cons (ds_setLc (i := 5) (own := [("edit", 6)]) (by rfl) nd_tale (by rfl) (by rfl) (sw_true (by rfl) (by rfl) (by rfl) (by rfl)) (di_seq (de_var (pv 2))) (blkOk_by (by kernel_rfl)) (fun _ _ _ _ _ => (dg_name (pg_name nd_tale (by rfl) (by first | exact .inl rfl | exact .inr rfl)))) (fun _ _ _ _ _ => dts_nil) (fun _ _ _ _ _ => (de_call (ok_message_of h) len_message_of (hr.mono (by omega)) (by rfl) h.m_message_of h.F_message_of.kp (bi_message_of h) Air.none (da_cons (de_var (pv 0)) (da_cons (de_var (pv 6)) da_nil)))))
  (dss_cons (ds_par3 (i := 7) (j := 8) (l := 9) (by rfl) nd_tale (by rfl) (by rfl) (by rfl) (by decide) (by decide) (by decide) (by rfl) (by rfl) (by rfl) (dax_cons (dx_v (de_call (ok_memories h) len_memories (hr.mono (by omega)) (by rfl) h.m_memories h.F_memories.kp (bi_memories h) (Air.of (takes_def (CXx := L2.CX P w))) (da_cons (de_var (pv 0)) (da_cons (de_ix (do_n (pv 1)) (do_v de_int) (by intro _ _; rfl) (hu := (ru hr))) (da_cons (de_var (pv 4)) (da_cons (de_var (pv 5)) da_nil)))))) (dax_cons (dx_v (de_tup da_nil)) (dax_cons (dx_l (dl_lst da_nil)) dax_nil))) (by rfl))
  (dss_cons (ds_for passes_def (by rfl) (di_enum (by rfl) h.n_enumerate (da_cons (de_var (pv 2)) da_nil)) (dg_tup (by rfl) (dgs_cons (dg_name (pg_name nd_tale (by rfl) (by first | exact .inl rfl | exact .inr rfl))) (dgs_cons (dg_name (pg_name nd_tale (by rfl) (by first | exact .inl rfl | exact .inr rfl))) dgs_nil))) (dss_cons (ds_setN (i := 8) nd_tale (by rfl) (by first | exact .inl rfl | exact .inr rfl) (dx_v (de_call (ok_done h) len_done (hr.mono (by omega)) (by rfl) h.m_done h.F_done.kp (bi_done h) (Air.of (takes_def (CXx := L2.CX P w))) (da_cons (de_var (pv 0)) (da_cons (de_var (pv 8)) (da_cons (de_var (pv 6)) da_nil))))) (by rfl) (by first | exact .inl rfl | exact .inr rfl))
  (dss_one (ds_expr (de_append (pv 9) (da_cons (de_tup (da_cons (de_ix (do_n (pv 5)) (do_n (pv 10)) (by intro _ _; rfl) (hu := (ru hr))) (da_cons (de_var (pv 8)) (da_cons (de_ix (do_v (de_ix (do_n (pv 4)) (do_v de_int) (by intro _ _; rfl) (hu := (ru hr)))) (do_v (de_ix (do_n (pv 7)) (do_v (de_x (dx_add (do_n (pv 10)) (do_v de_int)))) (by intro _ _; rfl) (hu := (ru hr)))) (by intro _ _; rfl) (hu := (ru hr))) da_nil)))) da_nil))))))
  (dss_one (ds_ret (de_x (dx_tuple (by rfl) h.n_tuple (da_o (do_n (pv 9)) da_nil))))))))))))))
theorem nd_is_kept_true : (["world", "question", "edits", "rows", "one"] : List Str).Nodup := by decide +kernel
theorem sc_is_kept_true : FnScope ["world", "question", "edits", "rows", "one"] ["world", "question", "edits"] (defScope (top 77)) := ⟨rfl, rfl, rfl, nd_is_kept_true, rfl, by decide +kernel, by decide +kernel⟩
theorem bi_is_kept_true (h : GOk K mg base w g) : Binds K g.d_is_kept_true ["world", "question", "edits"] [] := h.F_is_kept_true.bindsN fun _ _ _ _ _ _ us hl => match us, hl with | [_, _, _], _ => rfl
theorem len_is_kept_true (sl : List Sl) (e : sl.length ≠ 3) : D_is_kept_true sl = .st := fnOf_len _ e
theorem ok_is_kept_true (h : GOk K mg base w g) : FnOk P w K mg base (L2.CX P w) 36 g.f_is_kept_true g.d_is_kept_true ["world", "question", "edits"] (SpOf K (tgOf w g.tg) 3 D_is_kept_true) :=
  def_ok (k := 35) (h.F_is_kept_true) sc_is_kept_true rfl rfl fun cdv A outer s H E hr => (dss_cons (ds_setN (i := 3) nd_is_kept_true (by rfl) (by first | exact .inl rfl | exact .inr rfl) (dx_v (de_call (ok_tale h) len_tale (hr.mono (by omega)) (by rfl) h.m_tale h.F_tale.kp (bi_tale h) (Air.of (takes_def (CXx := L2.CX P w))) (da_cons (de_var (pv 0)) (da_cons (de_var (pv 1)) (da_cons (de_var (pv 2)) da_nil))))) (by rfl) (by first | exact .inl rfl | exact .inr rfl))
  (dss_one (ds_ret (dc_eq (ru hr) (by rfl) (do_v (de_fz (dl_lc (own := [("one", 4)]) (by rfl) nd_is_kept_true (di_seq (de_var (pv 3))) (blkOk_by (by kernel_rfl)) (fun _ _ _ _ _ => (dg_name (pg_name nd_is_kept_true (by rfl) (by first | exact .inl rfl | exact .inr rfl)))) (fun _ _ _ _ _ => (dts_one (dc_ne (ru hr) (by rfl) (do_v (de_ix (do_n (pv 4)) (do_v de_int) (by intro _ _; rfl) (hu := (ru hr)))) (do_v (de_ix (do_v (de_ix (do_n (pv 1)) (do_v de_int) (by intro _ _; rfl) (hu := (ru hr)))) (do_v (de_call (ok_led h) len_led (hr.mono (by omega)) (by rfl) h.m_led h.F_led.kp (bi_led h) Air.none (da_cons (de_ix (do_n (pv 1)) (do_v de_int) (by intro _ _; rfl) (hu := (ru hr))) (da_cons de_int (da_cons (de_ix (do_n (pv 4)) (do_v de_int) (by intro _ _; rfl) (hu := (ru hr))) da_nil))))) (by intro _ _; rfl) (hu := (ru hr))))).vt)) (fun _ _ _ _ _ => (de_var (pv 4)))))) (do_v (de_fz (dl_lst da_nil)))).ve)))
theorem nd_is_sure : (["question", "counts"] : List Str).Nodup := by decide +kernel
theorem sc_is_sure : FnScope ["question", "counts"] ["question", "counts"] (defScope (top 36)) := ⟨rfl, rfl, rfl, nd_is_sure, rfl, by decide +kernel, by decide +kernel⟩
theorem bi_is_sure (h : GOk K mg base w g) : Binds K g.d_is_sure ["question", "counts"] [] := h.F_is_sure.bindsN fun _ _ _ _ _ _ us hl => match us, hl with | [_, _], _ => rfl
theorem len_is_sure (sl : List Sl) (e : sl.length ≠ 2) : D_is_sure sl = .st := fnOf_len _ e
theorem ok_is_sure (h : GOk K mg base w g) : FnOk P w K mg base (L2.CX P w) 8 g.f_is_sure g.d_is_sure ["question", "counts"] (SpOf K (tgOf w g.tg) 2 D_is_sure) :=
  def_ok (k := 7) (h.F_is_sure) sc_is_sure rfl rfl fun cdv A outer s H E hr => (dss_one (ds_ret (dc_eq (ru hr) (by rfl) (do_v (de_x (dx_len (by rfl) h.n_len (da_o (do_v (de_call (ok_arrangements h) len_arrangements (hr.mono (by omega)) (by rfl) h.m_arrangements h.F_arrangements.kp (bi_arrangements h) (Air.of (takes_def (CXx := L2.CX P w))) (da_cons (de_var (pv 0)) (da_cons (de_var (pv 1)) da_nil)))) da_nil)))) (do_v de_int)).ve))
theorem nd_possible : (["question", "counts", "one", "many"] : List Str).Nodup := by decide +kernel
theorem sc_possible : FnScope ["question", "counts", "one", "many"] ["question", "counts"] (defScope (top 35)) := ⟨rfl, rfl, rfl, nd_possible, rfl, by decide +kernel, by decide +kernel⟩
theorem bi_possible (h : GOk K mg base w g) : Binds K g.d_possible ["question", "counts"] [] := h.F_possible.bindsN fun _ _ _ _ _ _ us hl => match us, hl with | [_, _], _ => rfl
theorem len_possible (sl : List Sl) (e : sl.length ≠ 2) : D_possible sl = .st := fnOf_len _ e
theorem ok_possible (h : GOk K mg base w g) : FnOk P w K mg base (L2.CX P w) 8 g.f_possible g.d_possible ["question", "counts"] (SpOf K (tgOf w g.tg) 2 D_possible) :=
  def_ok (k := 7) (h.F_possible) sc_possible rfl rfl fun cdv A outer s H E hr => (dss_one (ds_ret (de_x (dx_tuple (by rfl) h.n_tuple (da_o (do_v (de_fz (dl_lc (own := [("one", 2), ("many", 3)]) (by rfl) nd_possible (di_seq (de_call (ok_arrangements h) len_arrangements (hr.mono (by omega)) (by rfl) h.m_arrangements h.F_arrangements.kp (bi_arrangements h) (Air.of (takes_def (CXx := L2.CX P w))) (da_cons (de_var (pv 0)) (da_cons (de_var (pv 1)) da_nil)))) (blkOk_by (by kernel_rfl)) (fun _ _ _ _ _ => (dg_tup (by rfl) (dgs_cons (dg_name (pg_name nd_possible (by rfl) (by first | exact .inl rfl | exact .inr rfl))) (dgs_cons (dg_name (pg_name nd_possible (by rfl) (by first | exact .inl rfl | exact .inr rfl))) dgs_nil)))) (fun _ _ _ _ _ => dts_nil) (fun _ _ _ _ _ => (de_var (pv 2)))))) da_nil)))))
theorem nd_figure_of : (["word", "sign"] : List Str).Nodup := by decide +kernel
theorem sc_figure_of : FnScope ["word", "sign"] ["word"] (defScope (top 79)) := ⟨rfl, rfl, rfl, nd_figure_of, rfl, by decide +kernel, by decide +kernel⟩
theorem bi_figure_of (h : GOk K mg base w g) : Binds K g.d_figure_of ["word"] [] := h.F_figure_of.bindsN fun _ _ _ _ _ _ us hl => match us, hl with | [_], _ => rfl
theorem len_figure_of (sl : List Sl) (e : sl.length ≠ 1) : D_figure_of sl = .st := fnOf_len _ e
theorem ok_figure_of (h : GOk K mg base w g) : FnOk P w K mg base (L2.CX P w) 1 g.f_figure_of g.d_figure_of ["word"] (SpOf K (tgOf w g.tg) 1 D_figure_of) :=
  def_ok (k := 0) (h.F_figure_of) sc_figure_of rfl rfl fun cdv A outer s H E hr => (dss_cons (ds_if (dw_or (dt_not (dc_lele (do_v de_int) (do_v (de_x (dx_len (by rfl) h.n_len (da_o (do_n (pv 0)) da_nil)))) (do_v de_int)).vt) (dw_or1 (dc_ne (ru hr) (by rfl) (do_v (de_fz (dl_lc (own := [("sign", 1)]) (by rfl) nd_figure_of (di_seq (de_var (pv 0))) (blkOk_by (by kernel_rfl)) (fun _ _ _ _ _ => (dg_name (pg_name nd_figure_of (by rfl) (by first | exact .inl rfl | exact .inr rfl)))) (fun _ _ _ _ _ => (dts_one (dc_notin (ru hr) (by rfl) (do_n (pv 1)) (do_v (de_con (by rfl) h.con_FIGURES))).vt)) (fun _ _ _ _ _ => (de_var (pv 1)))))) (do_v (de_fz (dl_lst da_nil)))).vt)).dt (dss_one (ds_ret de_non)) dss_nil)
  (dss_one (ds_ret (de_x (dx_if (dc_eq (ru hr) (by rfl) (do_v (de_x (dx_str (by rfl) h.n_str (da_o (do_v (de_x (dx_int (by rfl) h.n_int (da_o (do_n (pv 0)) da_nil)))) da_nil)))) (do_n (pv 0))).vt (dx_int (by rfl) h.n_int (da_o (do_n (pv 0)) da_nil)) (dx_v de_non))))))
theorem nd_need_keeper : (["world", "letters", "value", "many", "part", "steps", "answers", "index", "state", "one", "after"] : List Str).Nodup := by decide +kernel
theorem sc_need_keeper : FnScope ["world", "letters", "value", "many", "part", "steps", "answers", "index", "state", "one", "after"] ["world", "letters", "value"] (defScope (top 64)) := ⟨rfl, rfl, rfl, nd_need_keeper, rfl, by decide +kernel, by decide +kernel⟩
theorem bi_need_keeper (h : GOk K mg base w g) : Binds K g.d_need_keeper ["world", "letters", "value"] [] := h.F_need_keeper.bindsN fun _ _ _ _ _ _ us hl => match us, hl with | [_, _, _], _ => rfl
theorem len_need_keeper (sl : List Sl) (e : sl.length ≠ 3) : D_need_keeper sl = .st := fnOf_len _ e
theorem ok_need_keeper (h : GOk K mg base w g) : FnOk P w K mg base (L2.CX P w) 5 g.f_need_keeper g.d_need_keeper ["world", "letters", "value"] (SpOf K (tgOf w g.tg) 3 D_need_keeper) :=
  def_okC (k := 4) (h.F_need_keeper) h.k_need_keeper sc_need_keeper rfl rfl fun A outer s H E hr => (dss_cons (ds_setN (i := 3) nd_need_keeper (by rfl) (by first | exact .inl rfl | exact .inr rfl) (dx_len (by rfl) h.n_len (da_o (do_v (de_call (ok_all_messages h) len_all_messages (hr.mono (by omega)) (by rfl) h.m_all_messages h.F_all_messages.kp (bi_all_messages h) (Air.of (takes_def (CXx := L2.CX P w))) (da_cons (de_var (pv 0)) (da_cons (de_var (pv 1)) da_nil)))) da_nil)) (by rfl) (by first | exact .inl rfl | exact .inr rfl))
  (dss_cons (ds_if (dw_or (dt_not (dt_val (de_isi isT_tuple (by rfl) h.n_isinstance (by rfl) h.n_tuple (by rfl) (do_n (pv 2))))) (dw_or (dc_ne (ru hr) (by rfl) (do_v (de_x (dx_len (by rfl) h.n_len (da_o (do_n (pv 2)) da_nil)))) (do_v de_int)).vt (dw_or1 (dt_not (dt_val (de_all (k := 0) (own := [("part", 4)]) (hr.mono (by omega)) (by rfl) nd_need_keeper (by rfl) h.n_all h.t_need_keeper (tg_need_keeper h) (by rfl) (gnS_by (by kernel_rfl)) (di_seq (de_var (pv 2))) ⟨(fun A1 _ _ _ _ _ _ hr1 => (dg_name (pg_name nd_need_keeper (by rfl) (by first | exact .inl rfl | exact .inr rfl)))), (fun A1 _ _ _ _ _ _ hr1 => dts_nil), (fun A1 _ _ _ _ _ _ hr1 => (de_isi isT_tuple (by rfl) h.n_isinstance (by rfl) h.n_tuple (by rfl) (do_n (pv 4))))⟩)))))).dt (dss_one (ds_raise1 (k := 1) (by rfl) (takes_def (CXx := L2.CX P w)) h.x_BadKeeper (ok_init_BadKeeper h) (hr.mono (by omega)) (bi_init_BadKeeper h) (by rfl) de_non)) dss_nil)
  (dss_cons (ds_asg (ps_asg (de_var (pv 2)) (dg_tup (by rfl) (dgs_cons (dg_name (pg_name nd_need_keeper (by rfl) (by first | exact .inl rfl | exact .inr rfl))) (dgs_cons (dg_name (pg_name nd_need_keeper (by rfl) (by first | exact .inl rfl | exact .inr rfl))) dgs_nil)))) fun _ _ _ q => q)
  (dss_cons (ds_if (dw_or (dt_not (dc_lele (do_v de_int) (do_v (de_x (dx_len (by rfl) h.n_len (da_o (do_n (pv 5)) da_nil)))) (do_v (de_con (by rfl) h.con_MOST_KEEPER))).vt) (dw_or1 (dc_ne (ru hr) (by rfl) (do_v (de_x (dx_len (by rfl) h.n_len (da_o (do_n (pv 6)) da_nil)))) (do_v (de_x (dx_len (by rfl) h.n_len (da_o (do_n (pv 5)) da_nil))))).vt)).dt (dss_one (ds_raise1 (k := 1) (by rfl) (takes_def (CXx := L2.CX P w)) h.x_BadKeeper (ok_init_BadKeeper h) (hr.mono (by omega)) (bi_init_BadKeeper h) (by rfl) de_non)) dss_nil)
  (dss_one (ds_for passes_def (by rfl) (di_enzip (by rfl) h.n_enumerate (by rfl) h.n_zip (da_cons (de_var (pv 5)) (da_cons (de_var (pv 6)) da_nil))) (dg_tup (by rfl) (dgs_cons (dg_name (pg_name nd_need_keeper (by rfl) (by first | exact .inl rfl | exact .inr rfl))) (dgs_cons (dg_tup (by rfl) (dgs_cons (dg_name (pg_name nd_need_keeper (by rfl) (by first | exact .inl rfl | exact .inr rfl))) (dgs_cons (dg_name (pg_name nd_need_keeper (by rfl) (by first | exact .inl rfl | exact .inr rfl))) dgs_nil))) dgs_nil))) (dss_cons (ds_if (dw_or (dt_not (dt_val (de_isi isT_tuple (by rfl) h.n_isinstance (by rfl) h.n_tuple (by rfl) (do_n (pv 8))))) (dw_or (dc_ne (ru hr) (by rfl) (do_v (de_x (dx_len (by rfl) h.n_len (da_o (do_n (pv 8)) da_nil)))) (do_n (pv 3))).vt (dw_or1 (dt_not (dt_val (de_call (ok_is_number h) len_is_number (hr.mono (by omega)) (by rfl) h.m_is_number h.F_is_number.kp (bi_is_number h) (Air.of (takes_def (CXx := L2.CX P w))) (da_cons (de_var (pv 9)) (da_cons de_int (da_cons (de_con (by rfl) h.con_MOST_ANSWER) da_nil))))))))).dt (dss_one (ds_raise1 (k := 1) (by rfl) (takes_def (CXx := L2.CX P w)) h.x_BadKeeper (ok_init_BadKeeper h) (hr.mono (by omega)) (bi_init_BadKeeper h) (by rfl) (de_var (pv 7)))) dss_nil)
  (dss_one (ds_if (dt_not (dt_val (de_all (k := 1) (own := [("after", 10)]) (hr.mono (by omega)) (by rfl) nd_need_keeper (by rfl) h.n_all h.t_need_keeper (tg_need_keeper h) (by rfl) (gnS_by (by kernel_rfl)) (di_seq (de_var (pv 8))) ⟨(fun A1 _ _ _ _ _ _ hr1 => (dg_name (pg_name nd_need_keeper (by rfl) (by first | exact .inl rfl | exact .inr rfl)))), (fun A1 _ _ _ _ _ _ hr1 => dts_nil), (fun A1 _ _ _ _ _ _ hr1 => (de_call (ok_is_number h) len_is_number (hr1.mono (by omega)) (by rfl) h.m_is_number h.F_is_number.kp (bi_is_number h) Air.none (da_cons (de_var (pv 10)) (da_cons de_int (da_cons (de_sub (do_v (de_x (dx_len (by rfl) h.n_len (da_o (do_n (pv 5)) da_nil)))) (do_v de_int)) da_nil)))))⟩))) (dss_one (ds_raise1 (k := 1) (by rfl) (takes_def (CXx := L2.CX P w)) h.x_BadKeeper (ok_init_BadKeeper h) (hr.mono (by omega)) (bi_init_BadKeeper h) (by rfl) (de_var (pv 7)))) dss_nil)))))))))
theorem nd_need_letters : (["value"] : List Str).Nodup := by decide +kernel
theorem sc_need_letters : FnScope ["value"] ["value"] (defScope (top 47)) := ⟨rfl, rfl, rfl, nd_need_letters, rfl, by decide +kernel, by decide +kernel⟩
theorem bi_need_letters (h : GOk K mg base w g) : Binds K g.d_need_letters ["value"] [] := h.F_need_letters.bindsN fun _ _ _ _ _ _ us hl => match us, hl with | [_], _ => rfl
theorem len_need_letters (sl : List Sl) (e : sl.length ≠ 1) : D_need_letters sl = .st := fnOf_len _ e
theorem ok_need_letters (h : GOk K mg base w g) : FnOk P w K mg base (L2.CX P w) 3 g.f_need_letters g.d_need_letters ["value"] (SpOf K (tgOf w g.tg) 1 D_need_letters) :=
  def_ok (k := 2) (h.F_need_letters) sc_need_letters rfl rfl fun cdv A outer s H E hr => (dss_one (ds_if (dt_not (dt_val (de_call (ok_is_number h) len_is_number (hr.mono (by omega)) (by rfl) h.m_is_number h.F_is_number.kp (bi_is_number h) (Air.of (takes_def (CXx := L2.CX P w))) (da_cons (de_var (pv 0)) (da_cons de_int (da_cons (de_con (by rfl) h.con_MOST_LETTERS) da_nil)))))) (dss_one (ds_raise0 (by rfl) (takes_def (CXx := L2.CX P w)) h.x_BadNumber (by rfl))) dss_nil))
theorem nd_read_keeper : (["world", "letters", "text", "steps", "answers", "line", "row", "words", "numbers", "word", "keeper"] : List Str).Nodup := by decide +kernel
theorem sc_read_keeper : FnScope ["world", "letters", "text", "steps", "answers", "line", "row", "words", "numbers", "word", "keeper"] ["world", "letters", "text"] (defScope (top 80)) := ⟨rfl, rfl, rfl, nd_read_keeper, rfl, by decide +kernel, by decide +kernel⟩
theorem bi_read_keeper (h : GOk K mg base w g) : Binds K g.d_read_keeper ["world", "letters", "text"] [] := h.F_read_keeper.bindsN fun _ _ _ _ _ _ us hl => match us, hl with | [_, _, _], _ => rfl
theorem len_read_keeper (sl : List Sl) (e : sl.length ≠ 3) : D_read_keeper sl = .st := fnOf_len _ e
theorem ok_read_keeper (h : GOk K mg base w g) : FnOk P w K mg base (L2.CX P w) 6 g.f_read_keeper g.d_read_keeper ["world", "letters", "text"] (SpOf K (tgOf w g.tg) 3 D_read_keeper) :=
  def_ok (k := 5) (h.F_read_keeper) sc_read_keeper rfl rfl fun cdv A outer s H E hr => (dss_cons (ds_expr (de_call (ok_need_world h) len_need_world (hr.mono (by omega)) (by rfl) h.m_need_world h.F_need_world.kp (bi_need_world h) (Air.of (takes_def (CXx := L2.CX P w))) (da_cons (de_var (pv 0)) da_nil)))
  (dss_cons (ds_expr (de_call (ok_need_letters h) len_need_letters (hr.mono (by omega)) (by rfl) h.m_need_letters h.F_need_letters.kp (bi_need_letters h) (Air.of (takes_def (CXx := L2.CX P w))) (da_cons (de_var (pv 1)) da_nil)))
  (dss_cons (ds_if (dt_not (dt_val (de_isi isT_str (by rfl) h.n_isinstance (by rfl) h.n_str (by rfl) (do_n (pv 2))))) (dss_one (ds_raise0 (by rfl) (takes_def (CXx := L2.CX P w)) h.x_BadString (by rfl))) dss_nil)
  (dss_cons (ds_par2 (i := 3) (j := 4) (by rfl) nd_read_keeper (by rfl) (by rfl) (by decide) (by rfl) (by rfl) (dax_cons (dx_l (dl_lst da_nil)) (dax_cons (dx_l (dl_lst da_nil)) dax_nil)) (by rfl))
  dss_never))))
theorem nd_letter_of : (["letters", "word", "known"] : List Str).Nodup := by decide +kernel
theorem sc_letter_of : FnScope ["letters", "word", "known"] ["letters", "word"] (defScope (top 72)) := ⟨rfl, rfl, rfl, nd_letter_of, rfl, by decide +kernel, by decide +kernel⟩
theorem bi_letter_of (h : GOk K mg base w g) : Binds K g.d_letter_of ["letters", "word"] [] := h.F_letter_of.bindsN fun _ _ _ _ _ _ us hl => match us, hl with | [_, _], _ => rfl
theorem len_letter_of (sl : List Sl) (e : sl.length ≠ 2) : D_letter_of sl = .st := fnOf_len _ e
theorem ok_letter_of (h : GOk K mg base w g) : FnOk P w K mg base (L2.CX P w) 1 g.f_letter_of g.d_letter_of ["letters", "word"] (SpOf K (tgOf w g.tg) 2 D_letter_of) :=
  def_ok (k := 0) (h.F_letter_of) sc_letter_of rfl rfl fun cdv A outer s H E hr => (dss_cons (ds_setN (i := 2) nd_letter_of (by rfl) (by first | exact .inl rfl | exact .inr rfl) (dx_sl (do_v (de_con (by rfl) h.con_NAMES)) dp_no (dp_at (de_var (pv 0)))) (by rfl) (by first | exact .inl rfl | exact .inr rfl))
  (dss_one (ds_ret (de_if (dw_and (dc_eq (ru hr) (by rfl) (do_v (de_x (dx_len (by rfl) h.n_len (da_o (do_n (pv 1)) da_nil)))) (do_v de_int)).vt (dw_and1 (dc_in (ru hr) (by rfl) (do_n (pv 1)) (do_n (pv 2))).vt)).dt (de_index (ru hr) (do_n (pv 2)) (da_o (do_n (pv 1)) da_nil)) de_non))))
theorem nd_place_of : (["word", "sign"] : List Str).Nodup := by decide +kernel
theorem sc_place_of : FnScope ["word", "sign"] ["word"] (defScope (top 73)) := ⟨rfl, rfl, rfl, nd_place_of, rfl, by decide +kernel, by decide +kernel⟩
theorem bi_place_of (h : GOk K mg base w g) : Binds K g.d_place_of ["word"] [] := h.F_place_of.bindsN fun _ _ _ _ _ _ us hl => match us, hl with | [_], _ => rfl
theorem len_place_of (sl : List Sl) (e : sl.length ≠ 1) : D_place_of sl = .st := fnOf_len _ e
theorem ok_place_of (h : GOk K mg base w g) : FnOk P w K mg base (L2.CX P w) 1 g.f_place_of g.d_place_of ["word"] (SpOf K (tgOf w g.tg) 1 D_place_of) :=
  def_ok (k := 0) (h.F_place_of) sc_place_of rfl rfl fun cdv A outer s H E hr => (dss_cons (ds_if (dw_or (dt_not (dc_lele (do_v de_int) (do_v (de_x (dx_len (by rfl) h.n_len (da_o (do_n (pv 0)) da_nil)))) (do_v de_int)).vt) (dw_or1 (dc_ne (ru hr) (by rfl) (do_v (de_fz (dl_lc (own := [("sign", 1)]) (by rfl) nd_place_of (di_seq (de_var (pv 0))) (blkOk_by (by kernel_rfl)) (fun _ _ _ _ _ => (dg_name (pg_name nd_place_of (by rfl) (by first | exact .inl rfl | exact .inr rfl)))) (fun _ _ _ _ _ => (dts_one (dc_notin (ru hr) (by rfl) (do_n (pv 1)) (do_v (de_con (by rfl) h.con_FIGURES))).vt)) (fun _ _ _ _ _ => (de_var (pv 1)))))) (do_v (de_fz (dl_lst da_nil)))).vt)).dt (dss_one (ds_ret de_non)) dss_nil)
  (dss_one (ds_ret (de_x (dx_if (dc_eq (ru hr) (by rfl) (do_v (de_x (dx_str (by rfl) h.n_str (da_o (do_v (de_x (dx_int (by rfl) h.n_int (da_o (do_n (pv 0)) da_nil)))) da_nil)))) (do_n (pv 0))).vt (dx_int (by rfl) h.n_int (da_o (do_n (pv 0)) da_nil)) (dx_v de_non))))))
theorem nd_edit_of : (["letters", "words", "row", "word"] : List Str).Nodup := by decide +kernel
theorem sc_edit_of : FnScope ["letters", "words", "row", "word"] ["letters", "words"] (defScope (top 74)) := ⟨rfl, rfl, rfl, nd_edit_of, rfl, by decide +kernel, by decide +kernel⟩
theorem bi_edit_of (h : GOk K mg base w g) : Binds K g.d_edit_of ["letters", "words"] [] := h.F_edit_of.bindsN fun _ _ _ _ _ _ us hl => match us, hl with | [_, _], _ => rfl
theorem len_edit_of (sl : List Sl) (e : sl.length ≠ 2) : D_edit_of sl = .st := fnOf_len _ e
theorem ok_edit_of (h : GOk K mg base w g) : FnOk P w K mg base (L2.CX P w) 2 g.f_edit_of g.d_edit_of ["letters", "words"] (SpOf K (tgOf w g.tg) 2 D_edit_of) :=
  def_ok (k := 1) (h.F_edit_of) sc_edit_of rfl rfl fun cdv A outer s H E hr => (dss_cons (ds_if (dc_notin (ru hr) (by rfl) (do_v (de_ix (do_n (pv 1)) (do_v de_int) (by intro _ _; rfl) (hu := (ru hr)))) (do_v (de_con (by rfl) h.con_KINDS_tales))).vt (dss_one (ds_ret (de_tup (da_cons de_non (da_cons de_int da_nil))))) dss_nil)
  (dss_cons (ds_if (dc_eq (ru hr) (by rfl) (do_v (de_ix (do_n (pv 1)) (do_v de_int) (by intro _ _; rfl) (hu := (ru hr)))) (do_v de_str)).vt (dss_cons (ds_setLc (i := 2) (own := [("word", 3)]) (by rfl) nd_edit_of (by rfl) (by rfl) (sw_true (by rfl) (by rfl) (by rfl) (by rfl)) (di_seq (de_x (dx_sl (do_n (pv 1)) (dp_at de_int) dp_no))) (blkOk_by (by kernel_rfl)) (fun _ _ _ _ _ => (dg_name (pg_name nd_edit_of (by rfl) (by first | exact .inl rfl | exact .inr rfl)))) (fun _ _ _ _ _ => dts_nil) (fun _ _ _ _ _ => (de_call (ok_letter_of h) len_letter_of (hr.mono (by omega)) (by rfl) h.m_letter_of h.F_letter_of.kp (bi_letter_of h) Air.none (da_cons (de_var (pv 0)) (da_cons (de_var (pv 3)) da_nil)))))
  (dss_cons (ds_if (dc_in (ru hr) (by rfl) (do_v de_non) (do_n (pv 2))).vt (dss_one (ds_ret (de_tup (da_cons de_non (da_cons (de_x (dx_add (do_v de_int) (do_v (de_index (ru hr) (do_n (pv 2)) (da_o (do_v de_non) da_nil))))) da_nil))))) dss_nil)
  (dss_one (ds_ret (de_tup (da_cons (de_if (dc_ne (ru hr) (by rfl) (do_n (pv 2)) (do_v (de_fz (dl_lst da_nil)))).vt (de_tup (da_cons de_str (da_cons (de_x (dx_tuple (by rfl) h.n_tuple (da_o (do_n (pv 2)) da_nil))) da_nil))) (de_tup (da_cons de_str da_nil))) (da_cons de_non da_nil))))))) dss_nil)
  (dss_cons (ds_if (dw_or (dc_lt (by rfl) (do_v (de_x (dx_len (by rfl) h.n_len (da_o (do_n (pv 1)) da_nil)))) (do_v de_int)).vt (dw_or1 (dc_is (by rfl) (do_v (de_call (ok_letter_of h) len_letter_of (hr.mono (by omega)) (by rfl) h.m_letter_of h.F_letter_of.kp (bi_letter_of h) (Air.of (takes_def (CXx := L2.CX P w))) (da_cons (de_var (pv 0)) (da_cons (de_ix (do_n (pv 1)) (do_v de_int) (by intro _ _; rfl) (hu := (ru hr))) da_nil)))) (do_v de_non)).vt)).dt (dss_one (ds_ret (de_tup (da_cons de_non (da_cons de_int da_nil))))) dss_nil)
  (dss_cons (ds_if (dw_and (dc_gt (by rfl) (do_v (de_x (dx_len (by rfl) h.n_len (da_o (do_n (pv 1)) da_nil)))) (do_v de_int)).vt (dw_and1 (dc_is (by rfl) (do_v (de_call (ok_place_of h) len_place_of (hr.mono (by omega)) (by rfl) h.m_place_of h.F_place_of.kp (bi_place_of h) (Air.of (takes_def (CXx := L2.CX P w))) (da_cons (de_ix (do_n (pv 1)) (do_v de_int) (by intro _ _; rfl) (hu := (ru hr))) da_nil))) (do_v de_non)).vt)).dt (dss_one (ds_ret (de_tup (da_cons de_non (da_cons de_int da_nil))))) dss_nil)
  (dss_one (ds_ret (de_tup (da_cons (de_x (dx_add (do_v (de_tup (da_cons (de_ix (do_n (pv 1)) (do_v de_int) (by intro _ _; rfl) (hu := (ru hr))) (da_cons (de_call (ok_letter_of h) len_letter_of (hr.mono (by omega)) (by rfl) h.m_letter_of h.F_letter_of.kp (bi_letter_of h) (Air.of (takes_def (CXx := L2.CX P w))) (da_cons (de_var (pv 0)) (da_cons (de_ix (do_n (pv 1)) (do_v de_int) (by intro _ _; rfl) (hu := (ru hr))) da_nil))) da_nil)))) (do_v (de_x (dx_tuple (by rfl) h.n_tuple (da_o (do_v (de_fz (dl_lc (own := [("word", 3)]) (by rfl) nd_edit_of (di_seq (de_x (dx_sl (do_n (pv 1)) (dp_at de_int) (dp_at de_int)))) (blkOk_by (by kernel_rfl)) (fun _ _ _ _ _ => (dg_name (pg_name nd_edit_of (by rfl) (by first | exact .inl rfl | exact .inr rfl)))) (fun _ _ _ _ _ => dts_nil) (fun _ _ _ _ _ => (de_call (ok_place_of h) len_place_of (hr.mono (by omega)) (by rfl) h.m_place_of h.F_place_of.kp (bi_place_of h) Air.none (da_cons (de_var (pv 3)) da_nil)))))) da_nil)))))) (da_cons de_non da_nil)))))))))
theorem nd_read_tale : (["world", "letters", "text", "found", "now", "line", "row", "words", "edit", "wrong", "word"] : List Str).Nodup := by decide +kernel
theorem sc_read_tale : FnScope ["world", "letters", "text", "found", "now", "line", "row", "words", "edit", "wrong", "word"] ["world", "letters", "text"] (defScope (top 75)) := ⟨rfl, rfl, rfl, nd_read_tale, rfl, by decide +kernel, by decide +kernel⟩
theorem bi_read_tale (h : GOk K mg base w g) : Binds K g.d_read_tale ["world", "letters", "text"] [] := h.F_read_tale.bindsN fun _ _ _ _ _ _ us hl => match us, hl with | [_, _, _], _ => rfl
theorem len_read_tale (sl : List Sl) (e : sl.length ≠ 3) : D_read_tale sl = .st := fnOf_len _ e
theorem ok_read_tale (h : GOk K mg base w g) : FnOk P w K mg base (L2.CX P w) 33 g.f_read_tale g.d_read_tale ["world", "letters", "text"] (SpOf K (tgOf w g.tg) 3 D_read_tale) :=
  def_ok (k := 32) (h.F_read_tale) sc_read_tale rfl rfl fun cdv A outer s H E hr => (dss_cons (ds_expr (de_call (ok_need_world h) len_need_world (hr.mono (by omega)) (by rfl) h.m_need_world h.F_need_world.kp (bi_need_world h) (Air.of (takes_def (CXx := L2.CX P w))) (da_cons (de_var (pv 0)) da_nil)))
  (dss_cons (ds_expr (de_call (ok_need_letters h) len_need_letters (hr.mono (by omega)) (by rfl) h.m_need_letters h.F_need_letters.kp (bi_need_letters h) (Air.of (takes_def (CXx := L2.CX P w))) (da_cons (de_var (pv 1)) da_nil)))
  (dss_cons (ds_if (dt_not (dt_val (de_isi isT_str (by rfl) h.n_isinstance (by rfl) h.n_str (by rfl) (do_n (pv 2))))) (dss_one (ds_raise0 (by rfl) (takes_def (CXx := L2.CX P w)) h.x_BadString (by rfl))) dss_nil)
  (dss_cons (ds_par2 (i := 3) (j := 4) (by rfl) nd_read_tale (by rfl) (by rfl) (by decide) (by rfl) (by rfl) (dax_cons (dx_l (dl_lst da_nil)) (dax_cons (dx_v (de_tup da_nil)) dax_nil)) (by rfl))
  dss_never))))
theorem nd_sure_counts : (["question", "most", "rows", "row"] : List Str).Nodup := by decide +kernel
theorem sc_sure_counts : FnScope ["question", "most", "rows", "row"] ["question", "most"] (defScope (top 37)) := ⟨rfl, rfl, rfl, nd_sure_counts, rfl, by decide +kernel, by decide +kernel⟩
theorem bi_sure_counts (h : GOk K mg base w g) : Binds K g.d_sure_counts ["question", "most"] [] := h.F_sure_counts.bindsN fun _ _ _ _ _ _ us hl => match us, hl with | [_, _], _ => rfl
theorem len_sure_counts (sl : List Sl) (e : sl.length ≠ 2) : D_sure_counts sl = .st := fnOf_len _ e
theorem ok_sure_counts (h : GOk K mg base w g) : FnOk P w K mg base (L2.CX P w) 9 g.f_sure_counts g.d_sure_counts ["question", "most"] (SpOf K (tgOf w g.tg) 2 D_sure_counts) :=
  def_ok (k := 8) (h.F_sure_counts) sc_sure_counts rfl rfl fun cdv A outer s H E hr => (dss_cons (ds_expr (de_call (ok_need_question h) len_need_question (hr.mono (by omega)) (by rfl) h.m_need_question h.F_need_question.kp (bi_need_question h) (Air.of (takes_def (CXx := L2.CX P w))) (da_cons (de_var (pv 0)) da_nil)))
  (dss_cons (ds_if (dt_not (dt_val (de_call (ok_is_number h) len_is_number (hr.mono (by omega)) (by rfl) h.m_is_number h.F_is_number.kp (bi_is_number h) (Air.of (takes_def (CXx := L2.CX P w))) (da_cons (de_var (pv 1)) (da_cons de_int (da_cons de_int da_nil)))))) (dss_one (ds_raise0 (by rfl) (takes_def (CXx := L2.CX P w)) h.x_BadNumber (by rfl))) dss_nil)
  (dss_cons (ds_setN (i := 2) nd_sure_counts (by rfl) (by first | exact .inl rfl | exact .inr rfl) (dx_v (de_call (ok_all_below h) len_all_below (hr.mono (by omega)) (by rfl) h.m_all_below h.F_all_below.kp (bi_all_below h) (Air.of (takes_def (CXx := L2.CX P w))) (da_cons (de_x (dx_mul (do_v (de_tup (da_cons (de_var (pv 1)) da_nil))) (do_v (de_ix (do_n (pv 0)) (do_v de_int) (by intro _ _; rfl) (hu := (ru hr)))))) da_nil))) (by rfl) (by first | exact .inl rfl | exact .inr rfl))
  (dss_one (ds_ret (de_x (dx_tuple (by rfl) h.n_tuple (da_o (do_v (de_fz (dl_lc (own := [("row", 3)]) (by rfl) nd_sure_counts (di_seq (de_var (pv 2))) (blkOk_by (by kernel_rfl)) (fun _ _ _ _ _ => (dg_name (pg_name nd_sure_counts (by rfl) (by first | exact .inl rfl | exact .inr rfl)))) (fun _ _ _ _ _ => (dts_one (dt_val (de_call (ok_is_sure h) len_is_sure (hr.mono (by omega)) (by rfl) h.m_is_sure h.F_is_sure.kp (bi_is_sure h) Air.none (da_cons (de_var (pv 0)) (da_cons (de_var (pv 3)) da_nil)))))) (fun _ _ _ _ _ => (de_var (pv 3)))))) da_nil))))))))
theorem nd_write_keeper : (["world", "letters", "keeper", "rows", "state", "answer", "after"] : List Str).Nodup := by decide +kernel
theorem sc_write_keeper : FnScope ["world", "letters", "keeper", "rows", "state", "answer", "after"] ["world", "letters", "keeper"] (defScope (top 78)) := ⟨rfl, rfl, rfl, nd_write_keeper, rfl, by decide +kernel, by decide +kernel⟩
theorem bi_write_keeper (h : GOk K mg base w g) : Binds K g.d_write_keeper ["world", "letters", "keeper"] [] := h.F_write_keeper.bindsN fun _ _ _ _ _ _ us hl => match us, hl with | [_, _, _], _ => rfl
theorem len_write_keeper (sl : List Sl) (e : sl.length ≠ 3) : D_write_keeper sl = .st := fnOf_len _ e
theorem ok_write_keeper (h : GOk K mg base w g) : FnOk P w K mg base (L2.CX P w) 6 g.f_write_keeper g.d_write_keeper ["world", "letters", "keeper"] (SpOf K (tgOf w g.tg) 3 D_write_keeper) :=
  def_ok (k := 5) (h.F_write_keeper) sc_write_keeper rfl rfl fun cdv A outer s H E hr => (dss_cons (ds_expr (de_call (ok_need_world h) len_need_world (hr.mono (by omega)) (by rfl) h.m_need_world h.F_need_world.kp (bi_need_world h) (Air.of (takes_def (CXx := L2.CX P w))) (da_cons (de_var (pv 0)) da_nil)))
  (dss_cons (ds_expr (de_call (ok_need_letters h) len_need_letters (hr.mono (by omega)) (by rfl) h.m_need_letters h.F_need_letters.kp (bi_need_letters h) (Air.of (takes_def (CXx := L2.CX P w))) (da_cons (de_var (pv 1)) da_nil)))
  (dss_cons (ds_expr (de_call (ok_need_keeper h) len_need_keeper (hr.mono (by omega)) (by rfl) h.m_need_keeper h.F_need_keeper.kp (bi_need_keeper h) (Air.of (takes_def (CXx := L2.CX P w))) (da_cons (de_var (pv 0)) (da_cons (de_var (pv 1)) (da_cons (de_var (pv 2)) da_nil)))))
  (dss_cons (ds_setN (i := 3) nd_write_keeper (by rfl) (by first | exact .inl rfl | exact .inr rfl) (dx_l (dl_lst da_nil)) (by rfl) (by first | exact .inl rfl | exact .inr rfl))
  (dss_cons (ds_for passes_def (by rfl) (di_zip (by rfl) h.n_zip (da_cons (de_ix (do_n (pv 2)) (do_v de_int) (by intro _ _; rfl) (hu := (ru hr))) (da_cons (de_ix (do_n (pv 2)) (do_v de_int) (by intro _ _; rfl) (hu := (ru hr))) da_nil))) (dg_tup (by rfl) (dgs_cons (dg_name (pg_name nd_write_keeper (by rfl) (by first | exact .inl rfl | exact .inr rfl))) (dgs_cons (dg_name (pg_name nd_write_keeper (by rfl) (by first | exact .inl rfl | exact .inr rfl))) dgs_nil))) dss_never)
  dss_never)))))
theorem nd_words_of : (["edit", "found", "part", "letter"] : List Str).Nodup := by decide +kernel
theorem sc_words_of : FnScope ["edit", "found", "part", "letter"] ["edit"] (defScope (top 70)) := ⟨rfl, rfl, rfl, nd_words_of, rfl, by decide +kernel, by decide +kernel⟩
theorem bi_words_of (h : GOk K mg base w g) : Binds K g.d_words_of ["edit"] [] := h.F_words_of.bindsN fun _ _ _ _ _ _ us hl => match us, hl with | [_], _ => rfl
theorem len_words_of (sl : List Sl) (e : sl.length ≠ 1) : D_words_of sl = .st := fnOf_len _ e
theorem ok_words_of (h : GOk K mg base w g) : FnOk P w K mg base (L2.CX P w) 1 g.f_words_of g.d_words_of ["edit"] (SpOf K (tgOf w g.tg) 1 D_words_of) :=
  def_ok (k := 0) (h.F_words_of) sc_words_of rfl rfl fun cdv A outer s H E hr => (dss_cons (ds_setN (i := 1) nd_words_of (by rfl) (by first | exact .inl rfl | exact .inr rfl) (dx_l (dl_lst (da_cons (de_ix (do_n (pv 0)) (do_v de_int) (by intro _ _; rfl) (hu := (ru hr))) da_nil))) (by rfl) (by first | exact .inl rfl | exact .inr rfl))
  (dss_cons (ds_for passes_def (by rfl) (di_seq (de_x (dx_sl (do_n (pv 0)) (dp_at de_int) dp_no))) (dg_name (pg_name nd_words_of (by rfl) (by first | exact .inl rfl | exact .inr rfl))) (dss_one (ds_if (dt_val (de_isi isT_tuple (by rfl) h.n_isinstance (by rfl) h.n_tuple (by rfl) (do_n (pv 2)))) (dss_one (ds_iadd nd_words_of (i := 1) (by rfl) (by first | exact .inl rfl | exact .inr rfl) (de_fz (dl_lc (own := [("letter", 3)]) (by rfl) nd_words_of (di_seq (de_var (pv 2))) (blkOk_by (by kernel_rfl)) (fun _ _ _ _ _ => (dg_name (pg_name nd_words_of (by rfl) (by first | exact .inl rfl | exact .inr rfl)))) (fun _ _ _ _ _ => dts_nil) (fun _ _ _ _ _ => (de_ix (do_v (de_con (by rfl) h.con_NAMES)) (do_n (pv 3)) (by intro _ _; rfl) (hu := (ru hr)))))) (by first | exact .inl rfl | exact .inr rfl))) (dss_one (ds_expr (de_append (pv 1) (da_cons (de_x (dx_if (dc_eq (ru hr) (by rfl) (do_v (de_x (dx_len (by rfl) h.n_len (da_o (do_n (pv 1)) da_nil)))) (do_v de_int)).vt (dx_v (de_ix (do_v (de_con (by rfl) h.con_NAMES)) (do_n (pv 2)) (by intro _ _; rfl) (hu := (ru hr)))) (dx_str (by rfl) h.n_str (da_o (do_n (pv 2)) da_nil)))) da_nil)))))))
  (dss_one (ds_ret (de_var (pv 1))))))
theorem nd_write_tale : (["world", "letters", "edits", "edit"] : List Str).Nodup := by decide +kernel
theorem sc_write_tale : FnScope ["world", "letters", "edits", "edit"] ["world", "letters", "edits"] (defScope (top 71)) := ⟨rfl, rfl, rfl, nd_write_tale, rfl, by decide +kernel, by decide +kernel⟩
theorem bi_write_tale (h : GOk K mg base w g) : Binds K g.d_write_tale ["world", "letters", "edits"] [] := h.F_write_tale.bindsN fun _ _ _ _ _ _ us hl => match us, hl with | [_, _, _], _ => rfl
theorem len_write_tale (sl : List Sl) (e : sl.length ≠ 3) : D_write_tale sl = .st := fnOf_len _ e
theorem ok_write_tale (h : GOk K mg base w g) : FnOk P w K mg base (L2.CX P w) 35 g.f_write_tale g.d_write_tale ["world", "letters", "edits"] (SpOf K (tgOf w g.tg) 3 D_write_tale) :=
  def_ok (k := 34) (h.F_write_tale) sc_write_tale rfl rfl fun cdv A outer s H E hr => (dss_cons (ds_expr (de_call (ok_need_world h) len_need_world (hr.mono (by omega)) (by rfl) h.m_need_world h.F_need_world.kp (bi_need_world h) (Air.of (takes_def (CXx := L2.CX P w))) (da_cons (de_var (pv 0)) da_nil)))
  (dss_cons (ds_expr (de_call (ok_need_letters h) len_need_letters (hr.mono (by omega)) (by rfl) h.m_need_letters h.F_need_letters.kp (bi_need_letters h) (Air.of (takes_def (CXx := L2.CX P w))) (da_cons (de_var (pv 1)) da_nil)))
  (dss_cons (ds_expr (de_call (ok_need_edits h) len_need_edits (hr.mono (by omega)) (by rfl) h.m_need_edits h.F_need_edits.kp (bi_need_edits h) (Air.of (takes_def (CXx := L2.CX P w))) (da_cons (de_var (pv 0)) (da_cons (de_var (pv 1)) (da_cons (de_var (pv 2)) da_nil)))))
  dss_never)))
theorem nd_law : (["_law_script", "_law_row", "_law_number", "_law_fine", "_law_question", "_law_counts", "_law_found", "_law_ends"] : List Str).Nodup := by decide +kernel
theorem sc_law : FnScope ["_law_script", "_law_row", "_law_number", "_law_fine", "_law_question", "_law_counts", "_law_found", "_law_ends"] ["_law_script"] (defScope (top 85)) := ⟨rfl, rfl, rfl, nd_law, rfl, by decide +kernel, by decide +kernel⟩
theorem hdp__law_error (h : GOk K mg base w g) {A : Around} {stk : List Env} {cdg : Value} {s : Shared} {H : Hp} {k : Nat} (hrT : Room (k + 1) (A.deeper (envOfC "_law_error" (defScope (top 84)) s.heap.objs.size g.f__law_error cdg))) (b : Addr) (oe : Obj) (cls : Value) (d : Option Addr) (pn : List (Addr × Obj)) (hzT : Zc cls d oe) (hflT : ∃ vs, oe.data = .fields vs) : DSs ((cxOf C8.CX0 P w K mg base ["_law_work", "_law_found", "error", "_law_known"] "_law_error" (defScope (top 84)) g.f__law_error cdg A stk s H C8.E0).nox.suite b ((b, oe) :: pn)) ((tgOf w g.tg).at ⟨b, cls, d⟩) W0 (hdT (defBody (top 84))) hd__law_error := (dss_cons (ds_setN (i := 3) nd__law_error (by rfl) (by first | exact .inl rfl | exact .inr rfl) (dx_l (dl_lst (da_cons (de_isx h.kit_BadAsk hzT hflT (by rfl) (by first | exact .inl rfl | exact .inr (.inl rfl) | exact .inr (.inr rfl)) (by rfl) h.n_isinstance (by rfl) h.m_BadAsk) (da_cons (de_isx h.kit_BadWorld hzT hflT (by rfl) (by first | exact .inl rfl | exact .inr (.inl rfl) | exact .inr (.inr rfl)) (by rfl) h.n_isinstance (by rfl) h.m_BadWorld) (da_cons (de_isx h.kit_BadNumber hzT hflT (by rfl) (by first | exact .inl rfl | exact .inr (.inl rfl) | exact .inr (.inr rfl)) (by rfl) h.n_isinstance (by rfl) h.m_BadNumber) da_nil))))) (by rfl) (by first | exact .inl rfl | exact .inr rfl))
  (dss_cons (ds_setN (i := 3) nd__law_error (by rfl) (by first | exact .inl rfl | exact .inr rfl) (dx_add (do_n (pv 3)) (do_v (de_fz (dl_lst (da_cons (de_isx h.kit_BadQuestion hzT hflT (by rfl) (by first | exact .inl rfl | exact .inr (.inl rfl) | exact .inr (.inr rfl)) (by rfl) h.n_isinstance (by rfl) h.m_BadQuestion) (da_cons (de_isx h.kit_BadEdits hzT hflT (by rfl) (by first | exact .inl rfl | exact .inr (.inl rfl) | exact .inr (.inr rfl)) (by rfl) h.n_isinstance (by rfl) h.m_BadEdits) da_nil)))))) (by rfl) (by first | exact .inl rfl | exact .inr rfl))
  (dss_cons (ds_setN (i := 3) nd__law_error (by rfl) (by first | exact .inl rfl | exact .inr rfl) (dx_add (do_n (pv 3)) (do_v (de_fz (dl_lst (da_cons (de_isx h.kit_BadKeeper hzT hflT (by rfl) (by first | exact .inl rfl | exact .inr (.inl rfl) | exact .inr (.inr rfl)) (by rfl) h.n_isinstance (by rfl) h.m_BadKeeper) da_nil))))) (by rfl) (by first | exact .inl rfl | exact .inr rfl))
  (dss_cons (ds_setN (i := 3) nd__law_error (by rfl) (by first | exact .inl rfl | exact .inr rfl) (dx_add (do_n (pv 3)) (do_v (de_fz (dl_lst (da_cons (de_isx h.kit_BadMessages hzT hflT (by rfl) (by first | exact .inl rfl | exact .inr (.inl rfl) | exact .inr (.inr rfl)) (by rfl) h.n_isinstance (by rfl) h.m_BadMessages) (da_cons (de_isx h.kit_BadString hzT hflT (by rfl) (by first | exact .inl rfl | exact .inr (.inl rfl) | exact .inr (.inr rfl)) (by rfl) h.n_isinstance (by rfl) h.m_BadString) da_nil)))))) (by rfl) (by first | exact .inl rfl | exact .inr rfl))
  (dss_cons (ds_setN (i := 3) nd__law_error (by rfl) (by first | exact .inl rfl | exact .inr rfl) (dx_add (do_n (pv 3)) (do_v (de_fz (dl_lst (da_cons (de_isx h.kit_BadText hzT hflT (by rfl) (by first | exact .inl rfl | exact .inr (.inl rfl) | exact .inr (.inr rfl)) (by rfl) h.n_isinstance (by rfl) h.m_BadText) da_nil))))) (by rfl) (by first | exact .inl rfl | exact .inr rfl))
  (dss_cons (ds_setN (i := 3) nd__law_error (by rfl) (by first | exact .inl rfl | exact .inr rfl) (dx_add (do_n (pv 3)) (do_v (de_fz (dl_lst (da_cons (de_isx h.kit_NoKeeper hzT hflT (by rfl) (by first | exact .inl rfl | exact .inr (.inl rfl) | exact .inr (.inr rfl)) (by rfl) h.n_isinstance (by rfl) h.m_NoKeeper) (da_cons (de_isx h.kit_Answerable hzT hflT (by rfl) (by first | exact .inl rfl | exact .inr (.inl rfl) | exact .inr (.inr rfl)) (by rfl) h.n_isinstance (by rfl) h.m_Answerable) da_nil)))))) (by rfl) (by first | exact .inl rfl | exact .inr rfl))
  (dss_one (ds_setN (i := 1) nd__law_error (by rfl) (by first | exact .inl rfl | exact .inr rfl) (dx_v (de_if (dw_and (dc_eq (ru hrT :) (by rfl) (do_v (de_count (ru hrT :) (do_n (pv 3)) (da_o (do_v de_bl) da_nil))) (do_v de_int)).vt (dw_and1 (dt_val (de_isxT h.kit_ValueError hzT hflT (by rfl) (by first | exact .inl rfl | exact .inr (.inl rfl) | exact .inr (.inr rfl)) (by rfl) h.n_isinstance (by rfl) h.n_ValueError (by rfl))))).dt (de_index (ru hrT :) (do_n (pv 3)) (da_o (do_v de_bl) da_nil)) de_str)) (by rfl) (by first | exact .inl rfl | exact .inr rfl)))))))))
theorem pstp__law_error (h : GOk K mg base w g) {A : Around} {stk : List Env} {cdg : Value} {s : Shared} {H : Hp} {k : Nat} (hrT : Room (k + 1) (A.deeper (envOfC "_law_error" (defScope (top 84)) s.heap.objs.size g.f__law_error cdg))) : DSs ((cxOf C8.CX0 P w K mg base ["_law_work", "_law_found", "error", "_law_known"] "_law_error" (defScope (top 84)) g.f__law_error cdg A stk s H C8.E0).nox) (tgOf w g.tg) W0 (rsT (defBody (top 84))) pst__law_error := (dss_one (ds_ret (de_var (pv 1))))
theorem bi_law (h : GOk K mg base w g) : Binds K g.d_law ["_law_script"] [] := h.F_law.bindsN fun _ _ _ _ _ _ us hl => match us, hl with | [_], _ => rfl
theorem len_law (sl : List Sl) (e : sl.length ≠ 1) : D_law sl = .st := fnOf_len _ e
theorem ok_law (h : GOk K mg base w g) : FnOk P w K mg base (L2.CX P w) 40 g.f_law g.d_law ["_law_script"] (SpOf K (tgOf w g.tg) 1 D_law) :=
  def_okC (k := 39) (h.F_law) h.k_law sc_law rfl rfl fun A outer s H E hr => (dss_cons (ds_setN (i := 1) nd_law (by rfl) (by first | exact .inl rfl | exact .inr rfl) (dx_l (dl_lst (da_cons (de_var (pv 0)) (da_cons de_int (da_cons de_int (da_cons de_int da_nil)))))) (by rfl) (by first | exact .inl rfl | exact .inr rfl))
  (dss_cons (ds_parG (is := [2, 3]) (by rfl) (pgs_cons (pg_name nd_law (i := 2) (by rfl) (by first | exact .inl rfl | exact .inr rfl)) (pgs_cons (pg_name nd_law (i := 3) (by rfl) (by first | exact .inl rfl | exact .inr rfl)) pgs_nil)) (by rfl) (dax_cons (dx_v (de_call (ok__law_pick h) len__law_pick (hr.mono (by omega)) (by rfl) h.m__law_pick h.F__law_pick.kp (bi__law_pick h) (Air.of (takes_def (CXx := L2.CX P w))) (da_io (pv 1) (da_cons (de_fz (dl_lst (da_cons de_non (da_cons de_int (da_cons de_int (da_cons de_bl (da_cons de_str da_nil))))))) da_nil)))) (dax_cons (dx_v (de_tup (da_cons de_int (da_cons (de_tup (da_cons (de_tup (da_cons de_int (da_cons de_int da_nil))) da_nil)) (da_cons (de_tup (da_cons de_int da_nil)) da_nil))))) dax_nil)))
  (dss_cons (ds_setN (i := 4) nd_law (by rfl) (by first | exact .inl rfl | exact .inr rfl) (dx_v (de_call (ok__law_pick h) len__law_pick (hr.mono (by omega)) (by rfl) h.m__law_pick h.F__law_pick.kp (bi__law_pick h) (Air.of (takes_def (CXx := L2.CX P w))) (da_io (pv 1) (da_cons (de_fz (dl_lst (da_cons de_non (da_cons (de_tup (da_cons de_int da_nil)) (da_cons (de_tup (da_cons de_int (da_cons (de_tup da_nil) (da_cons (de_tup da_nil) da_nil)))) (da_cons (de_tup (da_cons de_int (da_cons (de_tup (da_cons (de_tup (da_cons de_int da_nil)) da_nil)) (da_cons (de_tup (da_cons de_int da_nil)) da_nil)))) (da_cons (de_tup (da_cons de_int (da_cons (de_tup (da_cons (de_tup (da_cons de_int (da_cons de_int da_nil))) da_nil)) (da_cons (de_tup (da_cons de_int da_nil)) da_nil)))) (da_cons (de_tup (da_cons de_int (da_cons (de_tup (da_cons (de_tup (da_cons de_int (da_cons de_int da_nil))) da_nil)) (da_cons (de_tup (da_cons de_int da_nil)) da_nil)))) da_nil)))))))) da_nil)))) (by rfl) (by first | exact .inl rfl | exact .inr rfl))
  (dss_cons (ds_setN (i := 5) nd_law (by rfl) (by first | exact .inl rfl | exact .inr rfl) (dx_v (de_call (ok__law_pick h) len__law_pick (hr.mono (by omega)) (by rfl) h.m__law_pick h.F__law_pick.kp (bi__law_pick h) (Air.of (takes_def (CXx := L2.CX P w))) (da_io (pv 1) (da_cons (de_fz (dl_lst (da_cons de_non (da_cons (de_tup da_nil) (da_cons (de_tup (da_cons de_int da_nil)) (da_cons (de_tup (da_cons de_int (da_cons de_int (da_cons de_int da_nil)))) (da_cons (de_tup (da_cons de_int (da_cons de_int da_nil))) (da_cons (de_tup (da_cons (de_neg de_int) (da_cons de_int da_nil))) (da_cons (de_tup (da_cons de_bl (da_cons de_int da_nil))) (da_cons (de_fz (dl_lst (da_cons de_int (da_cons de_int da_nil)))) da_nil)))))))))) da_nil)))) (by rfl) (by first | exact .inl rfl | exact .inr rfl))
  (dss_cons (ds_setN (i := 6) nd_law (by rfl) (by first | exact .inl rfl | exact .inr rfl) (dx_l (dl_lst (da_cons (de_toldE (k := 7) (NN := 4) (i := 2) (j := 1) (y := "") (df := none) (by rfl) h.m__law_error h.F__law_error (bi__law_error h) sc__law_error (by rfl) (by first | exact .inl rfl | exact .inr (.inl rfl) | exact .inr (.inr rfl)) (by rfl) rfl h.exm_KeeperError (by rfl) (by rfl) (by decide) (by decide) (by first | exact .inl rfl | exact .inr rfl) (by rfl) (by rfl) h.m_KeeperError (by decide) (fun cdg s H hrT => hdp__law_error h hrT) (fun cdg s H hrT => pstp__law_error h hrT) h.t_law rfl (tg_law h) (hr.mono (by omega)) (lamP_by (by kernel_rfl)) rfl (fun _ _ _ _ _ => rfl) (fun A1 _ _ _ _ _ _ hrL => (de_call (ok_arrangements h) len_arrangements (hrL.mono (by omega)) (by rfl) h.m_arrangements h.F_arrangements.kp (bi_arrangements h) (Air.of (takes_of rfl rfl rfl rfl)) (da_cons (de_var (pv 4)) (da_cons (de_var (pv 5)) da_nil))))) (da_cons (de_toldE (k := 8) (NN := 4) (i := 2) (j := 1) (y := "_law_a") (df := (some (0))) (by rfl) h.m__law_error h.F__law_error (bi__law_error h) sc__law_error (by rfl) (by first | exact .inl rfl | exact .inr (.inl rfl) | exact .inr (.inr rfl)) (by rfl) rfl h.exm_KeeperError (by rfl) (by rfl) (by decide) (by decide) (by first | exact .inl rfl | exact .inr rfl) (by rfl) (by rfl) h.m_KeeperError (by decide) (fun cdg s H hrT => hdp__law_error h hrT) (fun cdg s H hrT => pstp__law_error h hrT) h.t_law rfl (tg_law h) (hr.mono (by omega)) (lamP_by (by kernel_rfl)) ⟨_, _, rfl⟩ (fun _ _ _ _ _ _ => ⟨_, rfl, fun _ => rfl⟩) (fun A1 _ _ _ _ _ _ hrL => (de_call (ok_possible h) len_possible (hrL.mono (by omega)) (by rfl) h.m_possible h.F_possible.kp (bi_possible h) (Air.of (takes_of rfl rfl rfl rfl)) (da_cons (de_var (pv 3)) (da_cons (de_var (pv 5)) da_nil))))) da_nil)))) (by rfl) (by first | exact .inl rfl | exact .inr rfl))
  (dss_cons (ds_setN (i := 6) nd_law (by rfl) (by first | exact .inl rfl | exact .inr rfl) (dx_add (do_n (pv 6)) (do_v (de_fz (dl_lst (da_cons (de_toldE (k := 8) (NN := 4) (i := 2) (j := 1) (y := "_law_b") (df := (some (0))) (by rfl) h.m__law_error h.F__law_error (bi__law_error h) sc__law_error (by rfl) (by first | exact .inl rfl | exact .inr (.inl rfl) | exact .inr (.inr rfl)) (by rfl) rfl h.exm_KeeperError (by rfl) (by rfl) (by decide) (by decide) (by first | exact .inl rfl | exact .inr rfl) (by rfl) (by rfl) h.m_KeeperError (by decide) (fun cdg s H hrT => hdp__law_error h hrT) (fun cdg s H hrT => pstp__law_error h hrT) h.t_law rfl (tg_law h) (hr.mono (by omega)) (lamP_by (by kernel_rfl)) ⟨_, _, rfl⟩ (fun _ _ _ _ _ _ => ⟨_, rfl, fun _ => rfl⟩) (fun A1 _ _ _ _ _ _ hrL => (de_call (ok_is_sure h) len_is_sure (hrL.mono (by omega)) (by rfl) h.m_is_sure h.F_is_sure.kp (bi_is_sure h) (Air.of (takes_of rfl rfl rfl rfl)) (da_cons (de_var (pv 3)) (da_cons (de_var (pv 5)) da_nil))))) da_nil))))) (by rfl) (by first | exact .inl rfl | exact .inr rfl))
  (dss_cons (ds_setN (i := 6) nd_law (by rfl) (by first | exact .inl rfl | exact .inr rfl) (dx_add (do_n (pv 6)) (do_v (de_fz (dl_lst (da_cons (de_toldE (k := 9) (NN := 4) (i := 2) (j := 1) (y := "") (df := none) (by rfl) h.m__law_error h.F__law_error (bi__law_error h) sc__law_error (by rfl) (by first | exact .inl rfl | exact .inr (.inl rfl) | exact .inr (.inr rfl)) (by rfl) rfl h.exm_KeeperError (by rfl) (by rfl) (by decide) (by decide) (by first | exact .inl rfl | exact .inr rfl) (by rfl) (by rfl) h.m_KeeperError (by decide) (fun cdg s H hrT => hdp__law_error h hrT) (fun cdg s H hrT => pstp__law_error h hrT) h.t_law rfl (tg_law h) (hr.mono (by omega)) (lamP_by (by kernel_rfl)) rfl (fun _ _ _ _ _ => rfl) (fun A1 _ _ _ _ _ _ hrL => (de_call (ok_sure_counts h) len_sure_counts (hrL.mono (by omega)) (by rfl) h.m_sure_counts h.F_sure_counts.kp (bi_sure_counts h) (Air.of (takes_of rfl rfl rfl rfl)) (da_cons (de_var (pv 4)) (da_cons de_non da_nil))))) da_nil))))) (by rfl) (by first | exact .inl rfl | exact .inr rfl))
  (dss_cons (ds_setN (i := 6) nd_law (by rfl) (by first | exact .inl rfl | exact .inr rfl) (dx_add (do_n (pv 6)) (do_v (de_fz (dl_lst (da_cons (de_toldE (k := 9) (NN := 4) (i := 2) (j := 1) (y := "_law_a") (df := (some (0))) (by rfl) h.m__law_error h.F__law_error (bi__law_error h) sc__law_error (by rfl) (by first | exact .inl rfl | exact .inr (.inl rfl) | exact .inr (.inr rfl)) (by rfl) rfl h.exm_KeeperError (by rfl) (by rfl) (by decide) (by decide) (by first | exact .inl rfl | exact .inr rfl) (by rfl) (by rfl) h.m_KeeperError (by decide) (fun cdg s H hrT => hdp__law_error h hrT) (fun cdg s H hrT => pstp__law_error h hrT) h.t_law rfl (tg_law h) (hr.mono (by omega)) (lamP_by (by kernel_rfl)) ⟨_, _, rfl⟩ (fun _ _ _ _ _ _ => ⟨_, rfl, fun _ => rfl⟩) (fun A1 _ _ _ _ _ _ hrL => (de_call (ok_sure_counts h) len_sure_counts (hrL.mono (by omega)) (by rfl) h.m_sure_counts h.F_sure_counts.kp (bi_sure_counts h) (Air.of (takes_of rfl rfl rfl rfl)) (da_cons (de_var (pv 3)) (da_cons (de_call (ok__law_pick h) len__law_pick (hrL.mono (by omega)) (by rfl) h.m__law_pick h.F__law_pick.kp (bi__law_pick h) (Air.of (takes_of rfl rfl rfl rfl)) (da_io (pv 1) (da_cons (de_fz (dl_lst (da_cons de_non (da_cons (de_neg de_int) (da_cons de_int (da_cons de_bl da_nil)))))) da_nil))) da_nil))))) da_nil))))) (by rfl) (by first | exact .inl rfl | exact .inr rfl))
  (dss_cons (ds_setN (i := 7) nd_law (by rfl) (by first | exact .inl rfl | exact .inr rfl) (dx_v (de_tup (da_cons de_int (da_cons (de_tup (da_cons (de_tup (da_cons de_int (da_cons de_int da_nil))) (da_cons (de_tup (da_cons de_int (da_cons de_int da_nil))) da_nil))) (da_cons (de_tup (da_cons de_int (da_cons de_int da_nil))) da_nil))))) (by rfl) (by first | exact .inl rfl | exact .inr rfl))
  (dss_cons (ds_setN (i := 6) nd_law (by rfl) (by first | exact .inl rfl | exact .inr rfl) (dx_add (do_n (pv 6)) (do_v (de_fz (dl_lst (da_cons (de_toldE (k := 35) (NN := 4) (i := 2) (j := 1) (y := "") (df := none) (by rfl) h.m__law_error h.F__law_error (bi__law_error h) sc__law_error (by rfl) (by first | exact .inl rfl | exact .inr (.inl rfl) | exact .inr (.inr rfl)) (by rfl) rfl h.exm_KeeperError (by rfl) (by rfl) (by decide) (by decide) (by first | exact .inl rfl | exact .inr rfl) (by rfl) (by rfl) h.m_KeeperError (by decide) (fun cdg s H hrT => hdp__law_error h hrT) (fun cdg s H hrT => pstp__law_error h hrT) h.t_law rfl (tg_law h) (hr.mono (by omega)) (lamP_by (by kernel_rfl)) rfl (fun _ _ _ _ _ => rfl) (fun A1 _ _ _ _ _ _ hrL => (de_call (ok_write_tale h) len_write_tale (hrL.mono (by omega)) (by rfl) h.m_write_tale h.F_write_tale.kp (bi_write_tale h) (Air.of (takes_of rfl rfl rfl rfl)) (da_cons de_str (da_cons de_non (da_cons de_non da_nil)))))) da_nil))))) (by rfl) (by first | exact .inl rfl | exact .inr rfl))
  (dss_cons (ds_setN (i := 6) nd_law (by rfl) (by first | exact .inl rfl | exact .inr rfl) (dx_add (do_n (pv 6)) (do_v (de_fz (dl_lst (da_cons (de_toldE (k := 35) (NN := 4) (i := 2) (j := 1) (y := "_law_a") (df := (some (0))) (by rfl) h.m__law_error h.F__law_error (bi__law_error h) sc__law_error (by rfl) (by first | exact .inl rfl | exact .inr (.inl rfl) | exact .inr (.inr rfl)) (by rfl) rfl h.exm_KeeperError (by rfl) (by rfl) (by decide) (by decide) (by first | exact .inl rfl | exact .inr rfl) (by rfl) (by rfl) h.m_KeeperError (by decide) (fun cdg s H hrT => hdp__law_error h hrT) (fun cdg s H hrT => pstp__law_error h hrT) h.t_law rfl (tg_law h) (hr.mono (by omega)) (lamP_by (by kernel_rfl)) ⟨_, _, rfl⟩ (fun _ _ _ _ _ _ => ⟨_, rfl, fun _ => rfl⟩) (fun A1 _ _ _ _ _ _ hrL => (de_call (ok_write_tale h) len_write_tale (hrL.mono (by omega)) (by rfl) h.m_write_tale h.F_write_tale.kp (bi_write_tale h) (Air.of (takes_of rfl rfl rfl rfl)) (da_cons de_str (da_cons (de_var (pv 2)) (da_cons de_non da_nil)))))) da_nil))))) (by rfl) (by first | exact .inl rfl | exact .inr rfl))
  (dss_cons (ds_setN (i := 6) nd_law (by rfl) (by first | exact .inl rfl | exact .inr rfl) (dx_add (do_n (pv 6)) (do_v (de_fz (dl_lst (da_cons (de_toldE (k := 35) (NN := 4) (i := 2) (j := 1) (y := "_law_b") (df := (some (0))) (by rfl) h.m__law_error h.F__law_error (bi__law_error h) sc__law_error (by rfl) (by first | exact .inl rfl | exact .inr (.inl rfl) | exact .inr (.inr rfl)) (by rfl) rfl h.exm_KeeperError (by rfl) (by rfl) (by decide) (by decide) (by first | exact .inl rfl | exact .inr rfl) (by rfl) (by rfl) h.m_KeeperError (by decide) (fun cdg s H hrT => hdp__law_error h hrT) (fun cdg s H hrT => pstp__law_error h hrT) h.t_law rfl (tg_law h) (hr.mono (by omega)) (lamP_by (by kernel_rfl)) ⟨_, _, rfl⟩ (fun _ _ _ _ _ _ => ⟨_, rfl, fun _ => rfl⟩) (fun A1 _ _ _ _ _ _ hrL => (de_call (ok_write_tale h) len_write_tale (hrL.mono (by omega)) (by rfl) h.m_write_tale h.F_write_tale.kp (bi_write_tale h) (Air.of (takes_of rfl rfl rfl rfl)) (da_cons de_str (da_cons de_int (da_cons de_non da_nil)))))) da_nil))))) (by rfl) (by first | exact .inl rfl | exact .inr rfl))
  (dss_cons (ds_setN (i := 6) nd_law (by rfl) (by first | exact .inl rfl | exact .inr rfl) (dx_add (do_n (pv 6)) (do_v (de_fz (dl_lst (da_cons (de_toldE (k := 33) (NN := 4) (i := 2) (j := 1) (y := "") (df := none) (by rfl) h.m__law_error h.F__law_error (bi__law_error h) sc__law_error (by rfl) (by first | exact .inl rfl | exact .inr (.inl rfl) | exact .inr (.inr rfl)) (by rfl) rfl h.exm_KeeperError (by rfl) (by rfl) (by decide) (by decide) (by first | exact .inl rfl | exact .inr rfl) (by rfl) (by rfl) h.m_KeeperError (by decide) (fun cdg s H hrT => hdp__law_error h hrT) (fun cdg s H hrT => pstp__law_error h hrT) h.t_law rfl (tg_law h) (hr.mono (by omega)) (lamP_by (by kernel_rfl)) rfl (fun _ _ _ _ _ => rfl) (fun A1 _ _ _ _ _ _ hrL => (de_call (ok_read_tale h) len_read_tale (hrL.mono (by omega)) (by rfl) h.m_read_tale h.F_read_tale.kp (bi_read_tale h) (Air.of (takes_of rfl rfl rfl rfl)) (da_cons de_str (da_cons (de_var (pv 2)) (da_cons de_non da_nil)))))) da_nil))))) (by rfl) (by first | exact .inl rfl | exact .inr rfl))
  (dss_cons (ds_setN (i := 6) nd_law (by rfl) (by first | exact .inl rfl | exact .inr rfl) (dx_add (do_n (pv 6)) (do_v (de_fz (dl_lst (da_cons (de_toldE (k := 33) (NN := 4) (i := 2) (j := 1) (y := "_law_a") (df := (some (0))) (by rfl) h.m__law_error h.F__law_error (bi__law_error h) sc__law_error (by rfl) (by first | exact .inl rfl | exact .inr (.inl rfl) | exact .inr (.inr rfl)) (by rfl) rfl h.exm_KeeperError (by rfl) (by rfl) (by decide) (by decide) (by first | exact .inl rfl | exact .inr rfl) (by rfl) (by rfl) h.m_KeeperError (by decide) (fun cdg s H hrT => hdp__law_error h hrT) (fun cdg s H hrT => pstp__law_error h hrT) h.t_law rfl (tg_law h) (hr.mono (by omega)) (lamP_by (by kernel_rfl)) ⟨_, _, rfl⟩ (fun _ _ _ _ _ _ => ⟨_, rfl, fun _ => rfl⟩) (fun A1 _ _ _ _ _ _ hrL => (de_call (ok_read_tale h) len_read_tale (hrL.mono (by omega)) (by rfl) h.m_read_tale h.F_read_tale.kp (bi_read_tale h) (Air.of (takes_of rfl rfl rfl rfl)) (da_cons de_str (da_cons de_int (da_cons de_non da_nil)))))) da_nil))))) (by rfl) (by first | exact .inl rfl | exact .inr rfl))
  (dss_cons (ds_setN (i := 6) nd_law (by rfl) (by first | exact .inl rfl | exact .inr rfl) (dx_add (do_n (pv 6)) (do_v (de_fz (dl_lst (da_cons (de_toldE (k := 35) (NN := 4) (i := 2) (j := 1) (y := "_law_b") (df := (some (0))) (by rfl) h.m__law_error h.F__law_error (bi__law_error h) sc__law_error (by rfl) (by first | exact .inl rfl | exact .inr (.inl rfl) | exact .inr (.inr rfl)) (by rfl) rfl h.exm_KeeperError (by rfl) (by rfl) (by decide) (by decide) (by first | exact .inl rfl | exact .inr rfl) (by rfl) (by rfl) h.m_KeeperError (by decide) (fun cdg s H hrT => hdp__law_error h hrT) (fun cdg s H hrT => pstp__law_error h hrT) h.t_law rfl (tg_law h) (hr.mono (by omega)) (lamP_by (by kernel_rfl)) ⟨_, _, rfl⟩ (fun _ _ _ _ _ _ => ⟨_, rfl, fun _ => rfl⟩) (fun A1 _ _ _ _ _ _ hrL => (de_call (ok_tale h) len_tale (hrL.mono (by omega)) (by rfl) h.m_tale h.F_tale.kp (bi_tale h) (Air.of (takes_of rfl rfl rfl rfl)) (da_cons de_str (da_cons de_non (da_cons de_non da_nil)))))) da_nil))))) (by rfl) (by first | exact .inl rfl | exact .inr rfl))
  (dss_cons (ds_setN (i := 6) nd_law (by rfl) (by first | exact .inl rfl | exact .inr rfl) (dx_add (do_n (pv 6)) (do_v (de_fz (dl_lst (da_cons (de_toldE (k := 35) (NN := 4) (i := 2) (j := 1) (y := "") (df := none) (by rfl) h.m__law_error h.F__law_error (bi__law_error h) sc__law_error (by rfl) (by first | exact .inl rfl | exact .inr (.inl rfl) | exact .inr (.inr rfl)) (by rfl) rfl h.exm_KeeperError (by rfl) (by rfl) (by decide) (by decide) (by first | exact .inl rfl | exact .inr rfl) (by rfl) (by rfl) h.m_KeeperError (by decide) (fun cdg s H hrT => hdp__law_error h hrT) (fun cdg s H hrT => pstp__law_error h hrT) h.t_law rfl (tg_law h) (hr.mono (by omega)) (lamP_by (by kernel_rfl)) rfl (fun _ _ _ _ _ => rfl) (fun A1 _ _ _ _ _ _ hrL => (de_call (ok_tale h) len_tale (hrL.mono (by omega)) (by rfl) h.m_tale h.F_tale.kp (bi_tale h) (Air.of (takes_of rfl rfl rfl rfl)) (da_cons de_str (da_cons (de_var (pv 4)) (da_cons de_non da_nil)))))) da_nil))))) (by rfl) (by first | exact .inl rfl | exact .inr rfl))
  (dss_cons (ds_setN (i := 6) nd_law (by rfl) (by first | exact .inl rfl | exact .inr rfl) (dx_add (do_n (pv 6)) (do_v (de_fz (dl_lst (da_cons (de_toldE (k := 35) (NN := 4) (i := 2) (j := 1) (y := "_law_a") (df := (some (0))) (by rfl) h.m__law_error h.F__law_error (bi__law_error h) sc__law_error (by rfl) (by first | exact .inl rfl | exact .inr (.inl rfl) | exact .inr (.inr rfl)) (by rfl) rfl h.exm_KeeperError (by rfl) (by rfl) (by decide) (by decide) (by first | exact .inl rfl | exact .inr rfl) (by rfl) (by rfl) h.m_KeeperError (by decide) (fun cdg s H hrT => hdp__law_error h hrT) (fun cdg s H hrT => pstp__law_error h hrT) h.t_law rfl (tg_law h) (hr.mono (by omega)) (lamP_by (by kernel_rfl)) ⟨_, _, rfl⟩ (fun _ _ _ _ _ _ => ⟨_, rfl, fun _ => rfl⟩) (fun A1 _ _ _ _ _ _ hrL => (de_call (ok_tale h) len_tale (hrL.mono (by omega)) (by rfl) h.m_tale h.F_tale.kp (bi_tale h) (Air.of (takes_of rfl rfl rfl rfl)) (da_cons de_str (da_cons (de_var (pv 7)) (da_cons de_non da_nil)))))) da_nil))))) (by rfl) (by first | exact .inl rfl | exact .inr rfl))
  (dss_cons (ds_setN (i := 6) nd_law (by rfl) (by first | exact .inl rfl | exact .inr rfl) (dx_add (do_n (pv 6)) (do_v (de_fz (dl_lst (da_cons (de_toldE (k := 35) (NN := 4) (i := 2) (j := 1) (y := "_law_b") (df := (some (0))) (by rfl) h.m__law_error h.F__law_error (bi__law_error h) sc__law_error (by rfl) (by first | exact .inl rfl | exact .inr (.inl rfl) | exact .inr (.inr rfl)) (by rfl) rfl h.exm_KeeperError (by rfl) (by rfl) (by decide) (by decide) (by first | exact .inl rfl | exact .inr rfl) (by rfl) (by rfl) h.m_KeeperError (by decide) (fun cdg s H hrT => hdp__law_error h hrT) (fun cdg s H hrT => pstp__law_error h hrT) h.t_law rfl (tg_law h) (hr.mono (by omega)) (lamP_by (by kernel_rfl)) ⟨_, _, rfl⟩ (fun _ _ _ _ _ _ => ⟨_, rfl, fun _ => rfl⟩) (fun A1 _ _ _ _ _ _ hrL => (de_call (ok_tale h) len_tale (hrL.mono (by omega)) (by rfl) h.m_tale h.F_tale.kp (bi_tale h) (Air.of (takes_of rfl rfl rfl rfl)) (da_cons de_str (da_cons (de_var (pv 7)) (da_cons (de_tup da_nil) da_nil)))))) da_nil))))) (by rfl) (by first | exact .inl rfl | exact .inr rfl))
  (dss_cons (ds_setN (i := 6) nd_law (by rfl) (by first | exact .inl rfl | exact .inr rfl) (dx_add (do_n (pv 6)) (do_v (de_fz (dl_lst (da_cons (de_toldE (k := 36) (NN := 4) (i := 2) (j := 1) (y := "") (df := none) (by rfl) h.m__law_error h.F__law_error (bi__law_error h) sc__law_error (by rfl) (by first | exact .inl rfl | exact .inr (.inl rfl) | exact .inr (.inr rfl)) (by rfl) rfl h.exm_KeeperError (by rfl) (by rfl) (by decide) (by decide) (by first | exact .inl rfl | exact .inr rfl) (by rfl) (by rfl) h.m_KeeperError (by decide) (fun cdg s H hrT => hdp__law_error h hrT) (fun cdg s H hrT => pstp__law_error h hrT) h.t_law rfl (tg_law h) (hr.mono (by omega)) (lamP_by (by kernel_rfl)) rfl (fun _ _ _ _ _ => rfl) (fun A1 _ _ _ _ _ _ hrL => (de_call (ok_is_kept_true h) len_is_kept_true (hrL.mono (by omega)) (by rfl) h.m_is_kept_true h.F_is_kept_true.kp (bi_is_kept_true h) (Air.of (takes_of rfl rfl rfl rfl)) (da_cons de_str (da_cons (de_var (pv 7)) (da_cons (de_tup da_nil) da_nil)))))) da_nil))))) (by rfl) (by first | exact .inl rfl | exact .inr rfl))
  (dss_cons (ds_setN (i := 6) nd_law (by rfl) (by first | exact .inl rfl | exact .inr rfl) (dx_add (do_n (pv 6)) (do_v (de_fz (dl_lst (da_cons (de_toldE (k := 6) (NN := 4) (i := 2) (j := 1) (y := "_law_a") (df := (some (0))) (by rfl) h.m__law_error h.F__law_error (bi__law_error h) sc__law_error (by rfl) (by first | exact .inl rfl | exact .inr (.inl rfl) | exact .inr (.inr rfl)) (by rfl) rfl h.exm_KeeperError (by rfl) (by rfl) (by decide) (by decide) (by first | exact .inl rfl | exact .inr rfl) (by rfl) (by rfl) h.m_KeeperError (by decide) (fun cdg s H hrT => hdp__law_error h hrT) (fun cdg s H hrT => pstp__law_error h hrT) h.t_law rfl (tg_law h) (hr.mono (by omega)) (lamP_by (by kernel_rfl)) ⟨_, _, rfl⟩ (fun _ _ _ _ _ _ => ⟨_, rfl, fun _ => rfl⟩) (fun A1 _ _ _ _ _ _ hrL => (de_call (ok_write_keeper h) len_write_keeper (hrL.mono (by omega)) (by rfl) h.m_write_keeper h.F_write_keeper.kp (bi_write_keeper h) (Air.of (takes_of rfl rfl rfl rfl)) (da_cons de_str (da_cons de_int (da_cons de_non da_nil)))))) da_nil))))) (by rfl) (by first | exact .inl rfl | exact .inr rfl))
  (dss_cons (ds_setN (i := 6) nd_law (by rfl) (by first | exact .inl rfl | exact .inr rfl) (dx_add (do_n (pv 6)) (do_v (de_fz (dl_lst (da_cons (de_toldE (k := 6) (NN := 4) (i := 2) (j := 1) (y := "_law_b") (df := (some (0))) (by rfl) h.m__law_error h.F__law_error (bi__law_error h) sc__law_error (by rfl) (by first | exact .inl rfl | exact .inr (.inl rfl) | exact .inr (.inr rfl)) (by rfl) rfl h.exm_KeeperError (by rfl) (by rfl) (by decide) (by decide) (by first | exact .inl rfl | exact .inr rfl) (by rfl) (by rfl) h.m_KeeperError (by decide) (fun cdg s H hrT => hdp__law_error h hrT) (fun cdg s H hrT => pstp__law_error h hrT) h.t_law rfl (tg_law h) (hr.mono (by omega)) (lamP_by (by kernel_rfl)) ⟨_, _, rfl⟩ (fun _ _ _ _ _ _ => ⟨_, rfl, fun _ => rfl⟩) (fun A1 _ _ _ _ _ _ hrL => (de_call (ok_read_keeper h) len_read_keeper (hrL.mono (by omega)) (by rfl) h.m_read_keeper h.F_read_keeper.kp (bi_read_keeper h) (Air.of (takes_of rfl rfl rfl rfl)) (da_cons de_str (da_cons de_int (da_cons de_non da_nil)))))) da_nil))))) (by rfl) (by first | exact .inl rfl | exact .inr rfl))
  (dss_one (ds_ret (dc_eq (ru hr) (by rfl) (do_n (pv 6)) (do_v (de_fz (dl_lst (da_cons de_int (da_cons de_int (da_cons de_int (da_cons de_int (da_cons de_int (da_cons de_int (da_cons de_int (da_cons de_int (da_cons de_int (da_cons de_int (da_cons de_int (da_cons de_int (da_cons de_int (da_cons de_int (da_cons de_int (da_cons de_int (da_cons de_int da_nil))))))))))))))))))))).ve)))))))))))))))))))))))
end
end K70

end
section
/-! printed by pr3.py: the end -/
namespace K70
open PySem PySem.Spec PyProof.Rows L2 TW
def kq (p : He.Defn) : Option Str := if p.1 = "law" then some lq_law else none
theorem gok {w : World} {K : PySem.W.Frag} {h : Heap} {mg : Str → Option Value} (X : K.In h) (G : h.Ns mainGlobals mg) (c : He.SaysX hfa hfn hts htf hex w h K) : ∃ g : Gd, g.f_law = He.ga K "law" ∧ g.tg = htf.map (fun p => (⟨(He.cT K p).2, kq p⟩ : TbK)) ∧ (∀ (s : Shared) (v : Value), BindsTo s g.d_law ⟨[v], []⟩ [("_law_script", v)]) ∧ ∀ base : Heap, (∀ p ∈ htf, GxR.TabB base mg (He.cT K p).1 (He.cT K p).2) → GOk K mg base w g := by
  obtain ⟨d0, F0⟩ := c.t.d.def_ 0 (d := dd__law_error) rfl
  obtain ⟨d1, F1⟩ := c.t.d.def_ 1 (d := dd__law_taken) rfl
  obtain ⟨d2, F2⟩ := c.t.d.def_ 2 (d := dd__law_pick) rfl
  obtain ⟨d3, F3⟩ := c.t.d.def_ 3 (d := dd_parted) rfl
  obtain ⟨d4, F4⟩ := c.t.d.def_ 4 (d := dd_shrunk) rfl
  obtain ⟨d5, F5⟩ := c.t.d.def_ 5 (d := dd_least_of) rfl
  obtain ⟨d6, F6⟩ := c.t.d.def_ 6 (d := dd_is_number) rfl
  obtain ⟨d7, F7⟩ := c.t.d.def_ 7 (d := dd_need_counts) rfl
  obtain ⟨d8, F8⟩ := c.t.d.def_ 8 (d := dd_are_steps) rfl
  obtain ⟨d9, F9⟩ := c.t.d.def_ 9 (d := dd_need_question) rfl
  obtain ⟨d10, F10⟩ := c.t.d.def_ 10 (d := dd_all_below) rfl
  obtain ⟨d11, F11⟩ := c.t.d.def_ 11 (d := dd_ways_to) rfl
  obtain ⟨d12, F12⟩ := c.t.d.def_ 12 (d := dd_arrangements) rfl
  obtain ⟨d13, F13⟩ := c.t.d.def_ 13 (d := dd_led) rfl
  obtain ⟨d14, F14⟩ := c.t.d.def_ 14 (d := dd_letter_maps) rfl
  obtain ⟨d15, F15⟩ := c.t.d.def_ 15 (d := dd_are_one_to_one) rfl
  obtain ⟨d16, F16⟩ := c.t.d.def_ 16 (d := dd_then) rfl
  obtain ⟨d17, F17⟩ := c.t.d.def_ 17 (d := dd_do_commute) rfl
  obtain ⟨d18, F18⟩ := c.t.d.def_ 18 (d := dd_can) rfl
  obtain ⟨d19, F19⟩ := c.t.d.def_ 19 (d := dd_done) rfl
  obtain ⟨d20, F20⟩ := c.t.d.def_ 20 (d := dd_orders) rfl
  obtain ⟨d21, F21⟩ := c.t.d.def_ 21 (d := dd_all_messages) rfl
  obtain ⟨d22, F22⟩ := c.t.d.def_ 22 (d := dd_memories) rfl
  obtain ⟨d23, F23⟩ := c.t.d.def_ 23 (d := dd_message_of) rfl
  obtain ⟨d24, F24⟩ := c.t.d.def_ 24 (d := dd_is_like) rfl
  obtain ⟨d25, F25⟩ := c.t.d.def_ 25 (d := dd_is_edit) rfl
  obtain ⟨d26, F26⟩ := c.t.d.def_ 26 (d := dd_first_wrong_edit) rfl
  obtain ⟨d27, F27⟩ := c.t.d.def_ 27 (d := dd_need_edits) rfl
  obtain ⟨d28, F28⟩ := c.t.d.def_ 28 (d := dd_need_world) rfl
  obtain ⟨d29, F29⟩ := c.t.d.def_ 29 (d := dd_made) rfl
  obtain ⟨d30, F30⟩ := c.t.d.def_ 30 (d := dd_right_keeper) rfl
  obtain ⟨d31, F31⟩ := c.t.d.def_ 31 (d := dd_tale) rfl
  obtain ⟨d32, F32⟩ := c.t.d.def_ 32 (d := dd_is_kept_true) rfl
  obtain ⟨d33, F33⟩ := c.t.d.def_ 33 (d := dd_is_sure) rfl
  obtain ⟨d34, F34⟩ := c.t.d.def_ 34 (d := dd_possible) rfl
  obtain ⟨d35, F35⟩ := c.t.d.def_ 35 (d := dd_figure_of) rfl
  obtain ⟨d36, F36⟩ := c.t.d.def_ 36 (d := dd_need_keeper) rfl
  obtain ⟨d37, F37⟩ := c.t.d.def_ 37 (d := dd_need_letters) rfl
  obtain ⟨d38, F38⟩ := c.t.d.def_ 38 (d := dd_read_keeper) rfl
  obtain ⟨d39, F39⟩ := c.t.d.def_ 39 (d := dd_letter_of) rfl
  obtain ⟨d40, F40⟩ := c.t.d.def_ 40 (d := dd_place_of) rfl
  obtain ⟨d41, F41⟩ := c.t.d.def_ 41 (d := dd_edit_of) rfl
  obtain ⟨d42, F42⟩ := c.t.d.def_ 42 (d := dd_read_tale) rfl
  obtain ⟨d43, F43⟩ := c.t.d.def_ 43 (d := dd_sure_counts) rfl
  obtain ⟨d44, F44⟩ := c.t.d.def_ 44 (d := dd_write_keeper) rfl
  obtain ⟨d45, F45⟩ := c.t.d.def_ 45 (d := dd_words_of) rfl
  obtain ⟨d46, F46⟩ := c.t.d.def_ 46 (d := dd_write_tale) rfl
  obtain ⟨d47, F47⟩ := c.t.d.def_ 47 (d := dd_law) rfl
  obtain ⟨e0, E0⟩ := c.t.d.def_ 48 (d := ddI_BadEdits) rfl
  obtain ⟨e1, E1⟩ := c.t.d.def_ 49 (d := ddI_BadKeeper) rfl
  obtain ⟨e2, E2⟩ := c.t.d.def_ 50 (d := ddI_BadQuestion) rfl
  have hx := c.more
  simp only [hex, Bool.and_eq_true] at hx
  have b := F47.bindsA (ps := ["_law_script"]) fun _ _ _ _ _ _ us hl => match us, hl with | [_], _ => rfl
  refine ⟨{ f__law_error := He.fAd K ("_law_error", none), d__law_error := d0, f__law_taken := He.fAd K ("_law_taken", none), d__law_taken := d1, f__law_pick := He.fAd K ("_law_pick", none), d__law_pick := d2, f_parted := He.fAd K ("parted", none), d_parted := d3, f_shrunk := He.fAd K ("shrunk", none), d_shrunk := d4, f_least_of := He.fAd K ("least_of", none), d_least_of := d5, f_is_number := He.fAd K ("is_number", none), d_is_number := d6, f_need_counts := He.fAd K ("need_counts", none), d_need_counts := d7, f_are_steps := He.fAd K ("are_steps", none), d_are_steps := d8, f_need_question := He.fAd K ("need_question", none), d_need_question := d9, f_all_below := He.fAd K ("all_below", none), d_all_below := d10, f_ways_to := He.fAd K ("ways_to", none), d_ways_to := d11, f_arrangements := He.fAd K ("arrangements", none), d_arrangements := d12, f_led := He.fAd K ("led", none), d_led := d13, f_letter_maps := He.fAd K ("letter_maps", none), d_letter_maps := d14, f_are_one_to_one := He.fAd K ("are_one_to_one", none), d_are_one_to_one := d15, f_then := He.fAd K ("then", none), d_then := d16, f_do_commute := He.fAd K ("do_commute", none), d_do_commute := d17, f_can := He.fAd K ("can", none), d_can := d18, f_done := He.fAd K ("done", none), d_done := d19, f_orders := He.fAd K ("orders", none), d_orders := d20, f_all_messages := He.fAd K ("all_messages", none), d_all_messages := d21, f_memories := He.fAd K ("memories", none), d_memories := d22, f_message_of := He.fAd K ("message_of", none), d_message_of := d23, f_is_like := He.fAd K ("is_like", none), d_is_like := d24, f_is_edit := He.fAd K ("is_edit", none), d_is_edit := d25, f_first_wrong_edit := He.fAd K ("first_wrong_edit", none), d_first_wrong_edit := d26, f_need_edits := He.fAd K ("need_edits", none), d_need_edits := d27, f_need_world := He.fAd K ("need_world", none), d_need_world := d28, f_made := He.fAd K ("made", none), d_made := d29, f_right_keeper := He.fAd K ("right_keeper", none), d_right_keeper := d30, f_tale := He.fAd K ("tale", none), d_tale := d31, f_is_kept_true := He.fAd K ("is_kept_true", none), d_is_kept_true := d32, f_is_sure := He.fAd K ("is_sure", none), d_is_sure := d33, f_possible := He.fAd K ("possible", none), d_possible := d34, f_figure_of := He.fAd K ("figure_of", none), d_figure_of := d35, f_need_keeper := He.fAd K ("need_keeper", none), d_need_keeper := d36, f_need_letters := He.fAd K ("need_letters", none), d_need_letters := d37, f_read_keeper := He.fAd K ("read_keeper", none), d_read_keeper := d38, f_letter_of := He.fAd K ("letter_of", none), d_letter_of := d39, f_place_of := He.fAd K ("place_of", none), d_place_of := d40, f_edit_of := He.fAd K ("edit_of", none), d_edit_of := d41, f_read_tale := He.fAd K ("read_tale", none), d_read_tale := d42, f_sure_counts := He.fAd K ("sure_counts", none), d_sure_counts := d43, f_write_keeper := He.fAd K ("write_keeper", none), d_write_keeper := d44, f_words_of := He.fAd K ("words_of", none), d_words_of := d45, f_write_tale := He.fAd K ("write_tale", none), d_write_tale := d46, f_law := He.fAd K ("law", none), d_law := d47, c_are_steps := (He.cT K ("are_steps", none)).1, p_are_steps := (He.cT K ("are_steps", none)).2, c_need_question := (He.cT K ("need_question", none)).1, p_need_question := (He.cT K ("need_question", none)).2, c_are_one_to_one := (He.cT K ("are_one_to_one", none)).1, p_are_one_to_one := (He.cT K ("are_one_to_one", none)).2, c_do_commute := (He.cT K ("do_commute", none)).1, p_do_commute := (He.cT K ("do_commute", none)).2, c_is_like := (He.cT K ("is_like", none)).1, p_is_like := (He.cT K ("is_like", none)).2, c_is_edit := (He.cT K ("is_edit", none)).1, p_is_edit := (He.cT K ("is_edit", none)).2, c_need_keeper := (He.cT K ("need_keeper", none)).1, p_need_keeper := (He.cT K ("need_keeper", none)).2, c_law := (He.cT K ("law", none)).1, p_law := (He.cT K ("law", none)).2, C_BadEdits := He.ga K "BadEdits", C_BadKeeper := He.ga K "BadKeeper", C_BadNumber := He.ga K "BadNumber", C_BadQuestion := He.ga K "BadQuestion", C_BadString := He.ga K "BadString", C_BadWorld := He.ga K "BadWorld", C_NoKeeper := He.ga K "NoKeeper", C_KeeperError := He.ga K "KeeperError", C_BadAsk := He.ga K "BadAsk", C_BadMessages := He.ga K "BadMessages", C_BadText := He.ga K "BadText", C_Answerable := He.ga K "Answerable", I_BadEdits := He.ma K (He.ga K "BadEdits") "__init__", dI_BadEdits := e0, I_BadKeeper := He.ma K (He.ga K "BadKeeper") "__init__", dI_BadKeeper := e1, I_BadQuestion := He.ma K (He.ga K "BadQuestion") "__init__", dI_BadQuestion := e2 }, rfl, rfl, fun s v => b s [v] rfl, fun base T => ?_⟩
  exact {
    F__law_error := F0,
    m__law_error := He.glo_ok X G (c.t.d.fact 0 (f := .glo "_law_error") rfl),
    F__law_taken := F1,
    m__law_taken := He.glo_ok X G (c.t.d.fact 1 (f := .glo "_law_taken") rfl),
    F__law_pick := F2,
    m__law_pick := He.glo_ok X G (c.t.d.fact 2 (f := .glo "_law_pick") rfl),
    F_parted := F3,
    m_parted := He.glo_ok X G (c.t.d.fact 3 (f := .glo "parted") rfl),
    F_shrunk := F4,
    m_shrunk := He.glo_ok X G (c.t.d.fact 4 (f := .glo "shrunk") rfl),
    F_least_of := F5,
    m_least_of := He.glo_ok X G (c.t.d.fact 5 (f := .glo "least_of") rfl),
    F_is_number := F6,
    m_is_number := He.glo_ok X G (c.t.d.fact 6 (f := .glo "is_number") rfl),
    F_need_counts := F7,
    m_need_counts := He.glo_ok X G (c.t.d.fact 7 (f := .glo "need_counts") rfl),
    F_are_steps := F8,
    m_are_steps := He.glo_ok X G (c.t.d.fact 8 (f := .glo "are_steps") rfl),
    k_are_steps := code_is F8,
    t_are_steps := T ("are_steps", none) (by simp [htf]),
    F_need_question := F9,
    m_need_question := He.glo_ok X G (c.t.d.fact 9 (f := .glo "need_question") rfl),
    k_need_question := code_is F9,
    t_need_question := T ("need_question", none) (by simp [htf]),
    F_all_below := F10,
    m_all_below := He.glo_ok X G (c.t.d.fact 10 (f := .glo "all_below") rfl),
    F_ways_to := F11,
    m_ways_to := He.glo_ok X G (c.t.d.fact 11 (f := .glo "ways_to") rfl),
    F_arrangements := F12,
    m_arrangements := He.glo_ok X G (c.t.d.fact 12 (f := .glo "arrangements") rfl),
    F_led := F13,
    m_led := He.glo_ok X G (c.t.d.fact 13 (f := .glo "led") rfl),
    F_letter_maps := F14,
    m_letter_maps := He.glo_ok X G (c.t.d.fact 14 (f := .glo "letter_maps") rfl),
    F_are_one_to_one := F15,
    m_are_one_to_one := He.glo_ok X G (c.t.d.fact 15 (f := .glo "are_one_to_one") rfl),
    k_are_one_to_one := code_is F15,
    t_are_one_to_one := T ("are_one_to_one", none) (by simp [htf]),
    F_then := F16,
    m_then := He.glo_ok X G (c.t.d.fact 16 (f := .glo "then") rfl),
    F_do_commute := F17,
    m_do_commute := He.glo_ok X G (c.t.d.fact 17 (f := .glo "do_commute") rfl),
    k_do_commute := code_is F17,
    t_do_commute := T ("do_commute", none) (by simp [htf]),
    F_can := F18,
    m_can := He.glo_ok X G (c.t.d.fact 18 (f := .glo "can") rfl),
    F_done := F19,
    m_done := He.glo_ok X G (c.t.d.fact 19 (f := .glo "done") rfl),
    F_orders := F20,
    m_orders := He.glo_ok X G (c.t.d.fact 20 (f := .glo "orders") rfl),
    F_all_messages := F21,
    m_all_messages := He.glo_ok X G (c.t.d.fact 21 (f := .glo "all_messages") rfl),
    F_memories := F22,
    m_memories := He.glo_ok X G (c.t.d.fact 22 (f := .glo "memories") rfl),
    F_message_of := F23,
    m_message_of := He.glo_ok X G (c.t.d.fact 23 (f := .glo "message_of") rfl),
    F_is_like := F24,
    m_is_like := He.glo_ok X G (c.t.d.fact 24 (f := .glo "is_like") rfl),
    k_is_like := code_is F24,
    t_is_like := T ("is_like", none) (by simp [htf]),
    F_is_edit := F25,
    m_is_edit := He.glo_ok X G (c.t.d.fact 25 (f := .glo "is_edit") rfl),
    k_is_edit := code_is F25,
    t_is_edit := T ("is_edit", none) (by simp [htf]),
    F_first_wrong_edit := F26,
    m_first_wrong_edit := He.glo_ok X G (c.t.d.fact 26 (f := .glo "first_wrong_edit") rfl),
    F_need_edits := F27,
    m_need_edits := He.glo_ok X G (c.t.d.fact 27 (f := .glo "need_edits") rfl),
    F_need_world := F28,
    m_need_world := He.glo_ok X G (c.t.d.fact 28 (f := .glo "need_world") rfl),
    F_made := F29,
    m_made := He.glo_ok X G (c.t.d.fact 29 (f := .glo "made") rfl),
    F_right_keeper := F30,
    m_right_keeper := He.glo_ok X G (c.t.d.fact 30 (f := .glo "right_keeper") rfl),
    F_tale := F31,
    m_tale := He.glo_ok X G (c.t.d.fact 31 (f := .glo "tale") rfl),
    F_is_kept_true := F32,
    m_is_kept_true := He.glo_ok X G (c.t.d.fact 32 (f := .glo "is_kept_true") rfl),
    F_is_sure := F33,
    m_is_sure := He.glo_ok X G (c.t.d.fact 33 (f := .glo "is_sure") rfl),
    F_possible := F34,
    m_possible := He.glo_ok X G (c.t.d.fact 34 (f := .glo "possible") rfl),
    F_figure_of := F35,
    m_figure_of := He.glo_ok X G (c.t.d.fact 35 (f := .glo "figure_of") rfl),
    F_need_keeper := F36,
    m_need_keeper := He.glo_ok X G (c.t.d.fact 36 (f := .glo "need_keeper") rfl),
    k_need_keeper := code_is F36,
    t_need_keeper := T ("need_keeper", none) (by simp [htf]),
    F_need_letters := F37,
    m_need_letters := He.glo_ok X G (c.t.d.fact 37 (f := .glo "need_letters") rfl),
    F_read_keeper := F38,
    m_read_keeper := He.glo_ok X G (c.t.d.fact 38 (f := .glo "read_keeper") rfl),
    F_letter_of := F39,
    m_letter_of := He.glo_ok X G (c.t.d.fact 39 (f := .glo "letter_of") rfl),
    F_place_of := F40,
    m_place_of := He.glo_ok X G (c.t.d.fact 40 (f := .glo "place_of") rfl),
    F_edit_of := F41,
    m_edit_of := He.glo_ok X G (c.t.d.fact 41 (f := .glo "edit_of") rfl),
    F_read_tale := F42,
    m_read_tale := He.glo_ok X G (c.t.d.fact 42 (f := .glo "read_tale") rfl),
    F_sure_counts := F43,
    m_sure_counts := He.glo_ok X G (c.t.d.fact 43 (f := .glo "sure_counts") rfl),
    F_write_keeper := F44,
    m_write_keeper := He.glo_ok X G (c.t.d.fact 44 (f := .glo "write_keeper") rfl),
    F_words_of := F45,
    m_words_of := He.glo_ok X G (c.t.d.fact 45 (f := .glo "words_of") rfl),
    F_write_tale := F46,
    m_write_tale := He.glo_ok X G (c.t.d.fact 46 (f := .glo "write_tale") rfl),
    F_law := F47,
    m_law := He.glo_ok X G (c.t.d.fact 47 (f := .glo "law") rfl),
    k_law := code_is F47,
    t_law := T ("law", none) (by simp [htf]),
    n_ValueError := He.free_ok X G (c.t.d.fact 48 (f := .free "ValueError") rfl),
    n_all := He.free_ok X G (c.t.d.fact 49 (f := .free "all") rfl),
    n_any := He.free_ok X G (c.t.d.fact 50 (f := .free "any") rfl),
    n_bool := He.free_ok X G (c.t.d.fact 51 (f := .free "bool") rfl),
    n_enumerate := He.free_ok X G (c.t.d.fact 52 (f := .free "enumerate") rfl),
    n_int := He.free_ok X G (c.t.d.fact 53 (f := .free "int") rfl),
    n_isinstance := He.free_ok X G (c.t.d.fact 54 (f := .free "isinstance") rfl),
    n_len := He.free_ok X G (c.t.d.fact 55 (f := .free "len") rfl),
    n_list := He.free_ok X G (c.t.d.fact 56 (f := .free "list") rfl),
    n_range := He.free_ok X G (c.t.d.fact 57 (f := .free "range") rfl),
    n_set := He.free_ok X G (c.t.d.fact 58 (f := .free "set") rfl),
    n_sorted := He.free_ok X G (c.t.d.fact 59 (f := .free "sorted") rfl),
    n_str := He.free_ok X G (c.t.d.fact 60 (f := .free "str") rfl),
    n_sum := He.free_ok X G (c.t.d.fact 61 (f := .free "sum") rfl),
    n_tuple := He.free_ok X G (c.t.d.fact 62 (f := .free "tuple") rfl),
    n_zip := He.free_ok X G (c.t.d.fact 63 (f := .free "zip") rfl),
    nd := of_decide_eq_true hx.1,
    con_FIGURES := con_ok X G hx.2.1,
    con_HIDDEN := con_ok X G hx.2.2.1,
    con_KINDS_tales := con_ok X G hx.2.2.2.1,
    con_MOST_ANSWER := con_ok X G hx.2.2.2.2.1,
    con_MOST_COUNT := con_ok X G hx.2.2.2.2.2.1,
    con_MOST_EDITS := con_ok X G hx.2.2.2.2.2.2.1,
    con_MOST_KEEPER := con_ok X G hx.2.2.2.2.2.2.2.1,
    con_MOST_LETTERS := con_ok X G hx.2.2.2.2.2.2.2.2.1,
    con_MOST_STATES := con_ok X G hx.2.2.2.2.2.2.2.2.2.1,
    con_MOST_TEXT := con_ok X G hx.2.2.2.2.2.2.2.2.2.2.1,
    con_NAMES := con_ok X G hx.2.2.2.2.2.2.2.2.2.2.2.1,
    con_ONE_TO_ONE := con_ok X G hx.2.2.2.2.2.2.2.2.2.2.2.2.1,
    con_ORDERLESS := con_ok X G hx.2.2.2.2.2.2.2.2.2.2.2.2.2.1,
    con_WORLDS := con_ok X G hx.2.2.2.2.2.2.2.2.2.2.2.2.2.2.1,
    tab_KINDS_worlds := kt_ok X G (c.t.d.fact 64 (f := .glo "KINDS_worlds") rfl) (c.t.tab 0) hx.2.2.2.2.2.2.2.2.2.2.2.2.2.2.2.1,
    m_BadEdits := He.glo_ok X G (c.t.d.fact 65 (f := .glo "BadEdits") rfl),
    m_BadKeeper := He.glo_ok X G (c.t.d.fact 66 (f := .glo "BadKeeper") rfl),
    m_BadNumber := He.glo_ok X G (c.t.d.fact 67 (f := .glo "BadNumber") rfl),
    m_BadQuestion := He.glo_ok X G (c.t.d.fact 68 (f := .glo "BadQuestion") rfl),
    m_BadString := He.glo_ok X G (c.t.d.fact 69 (f := .glo "BadString") rfl),
    m_BadWorld := He.glo_ok X G (c.t.d.fact 70 (f := .glo "BadWorld") rfl),
    m_NoKeeper := He.glo_ok X G (c.t.d.fact 71 (f := .glo "NoKeeper") rfl),
    m_KeeperError := He.glo_ok X G (c.t.d.fact 72 (f := .glo "KeeperError") rfl),
    m_BadAsk := He.glo_ok X G (c.t.d.fact 73 (f := .glo "BadAsk") rfl),
    m_BadMessages := He.glo_ok X G (c.t.d.fact 74 (f := .glo "BadMessages") rfl),
    m_BadText := He.glo_ok X G (c.t.d.fact 75 (f := .glo "BadText") rfl),
    m_Answerable := He.glo_ok X G (c.t.d.fact 76 (f := .glo "Answerable") rfl),
    FI_BadEdits := E0,
    x_BadEdits := TW.xclsB_ok (He.glo_ok X G (c.t.d.fact 65 (f := .glo "BadEdits") rfl)) hx.2.2.2.2.2.2.2.2.2.2.2.2.2.2.2.2.1,
    FI_BadKeeper := E1,
    x_BadKeeper := TW.xclsB_ok (He.glo_ok X G (c.t.d.fact 66 (f := .glo "BadKeeper") rfl)) hx.2.2.2.2.2.2.2.2.2.2.2.2.2.2.2.2.2.1,
    FI_BadQuestion := E2,
    x_BadQuestion := TW.xclsB_ok (He.glo_ok X G (c.t.d.fact 68 (f := .glo "BadQuestion") rfl)) hx.2.2.2.2.2.2.2.2.2.2.2.2.2.2.2.2.2.2.1,
    x_BadNumber := TW.xcls0B_ok (He.glo_ok X G (c.t.d.fact 67 (f := .glo "BadNumber") rfl)) hx.2.2.2.2.2.2.2.2.2.2.2.2.2.2.2.2.2.2.2.1,
    x_BadString := TW.xcls0B_ok (He.glo_ok X G (c.t.d.fact 69 (f := .glo "BadString") rfl)) hx.2.2.2.2.2.2.2.2.2.2.2.2.2.2.2.2.2.2.2.2.1,
    x_BadWorld := TW.xcls0B_ok (He.glo_ok X G (c.t.d.fact 70 (f := .glo "BadWorld") rfl)) hx.2.2.2.2.2.2.2.2.2.2.2.2.2.2.2.2.2.2.2.2.2.1,
    x_NoKeeper := TW.xcls0B_ok (He.glo_ok X G (c.t.d.fact 71 (f := .glo "NoKeeper") rfl)) hx.2.2.2.2.2.2.2.2.2.2.2.2.2.2.2.2.2.2.2.2.2.2.1,
    exm_KeeperError := TW.xexmB_ok hx.2.2.2.2.2.2.2.2.2.2.2.2.2.2.2.2.2.2.2.2.2.2.2.1,
    kit_BadNumber := TW.xkitB_ok hx.2.2.2.2.2.2.2.2.2.2.2.2.2.2.2.2.2.2.2.2.2.2.2.2.1,
    kit_BadWorld := TW.xkitB_ok hx.2.2.2.2.2.2.2.2.2.2.2.2.2.2.2.2.2.2.2.2.2.2.2.2.2.1,
    kit_BadAsk := TW.xkitB_ok hx.2.2.2.2.2.2.2.2.2.2.2.2.2.2.2.2.2.2.2.2.2.2.2.2.2.2.1,
    kit_BadEdits := TW.xkitB_ok hx.2.2.2.2.2.2.2.2.2.2.2.2.2.2.2.2.2.2.2.2.2.2.2.2.2.2.2.1,
    kit_BadQuestion := TW.xkitB_ok hx.2.2.2.2.2.2.2.2.2.2.2.2.2.2.2.2.2.2.2.2.2.2.2.2.2.2.2.2.1,
    kit_BadKeeper := TW.xkitB_ok hx.2.2.2.2.2.2.2.2.2.2.2.2.2.2.2.2.2.2.2.2.2.2.2.2.2.2.2.2.2.1,
    kit_BadString := TW.xkitB_ok hx.2.2.2.2.2.2.2.2.2.2.2.2.2.2.2.2.2.2.2.2.2.2.2.2.2.2.2.2.2.2.1,
    kit_BadMessages := TW.xkitB_ok hx.2.2.2.2.2.2.2.2.2.2.2.2.2.2.2.2.2.2.2.2.2.2.2.2.2.2.2.2.2.2.2.1,
    kit_BadText := TW.xkitB_ok hx.2.2.2.2.2.2.2.2.2.2.2.2.2.2.2.2.2.2.2.2.2.2.2.2.2.2.2.2.2.2.2.2.1,
    kit_Answerable := TW.xkitB_ok hx.2.2.2.2.2.2.2.2.2.2.2.2.2.2.2.2.2.2.2.2.2.2.2.2.2.2.2.2.2.2.2.2.2.1,
    kit_NoKeeper := TW.xkitB_ok hx.2.2.2.2.2.2.2.2.2.2.2.2.2.2.2.2.2.2.2.2.2.2.2.2.2.2.2.2.2.2.2.2.2.2.1,
    kit_ValueError := TW.xkitB_ok hx.2.2.2.2.2.2.2.2.2.2.2.2.2.2.2.2.2.2.2.2.2.2.2.2.2.2.2.2.2.2.2.2.2.2.2.1 }
end K70
open PySem PySem.W PySem.Calls PyProof.Rows
theorem K70.holds (hD : ∀ ns : List Int, ns.length ≤ 63 → (∀ z ∈ ns, Builtin.Int.intBits z ≤ 1048576) → ∃ r, K70.D_law [.v (TW.scr ns)] = .ok (.bool true) r) : PySem.Challenge.rw_toldwhat_k70_counts_and_tales_refused.Holds := by
  w_on; o_law
  refine HandSHeadRun.head_any (r := OpenLaw.row PySem.Challenge.rw_toldwhat_k70_counts_and_tales_refused) (q := view (OpenLaw.row PySem.Challenge.rw_toldwhat_k70_counts_and_tales_refused).prog [85]) (H := K70.hk) (ob := K70.ob) (M := 20000) (loose := K70.loose) (d := HandSHeadRun.topDef (OpenLaw.row PySem.Challenge.rw_toldwhat_k70_counts_and_tales_refused).prog 85) (kwd := []) K70.ob_eq
    (by kernel_rfl) (fun s => by kernel_rfl) K70.run (by kernel_rfl) (by kernel_rfl) (by kernel_rfl) (by rfl) (by first | assumption | decide +kernel) (by decide +kernel) ⟨rfl, rfl, rfl, rfl, rfl, by decide +kernel⟩ ?hw ?hc
  case hw => w_witness2
  case hc =>
    refine LamX.walk_ofTsE (l := PySem.Challenge.rw_toldwhat_k70_counts_and_tales_refused) (n := 63) (k := 40) (x := "_law_script") (CX := fun w => L2.CX (PySem.Challenge.rw_toldwhat_k70_counts_and_tales_refused).prog w) rfl (by decide) (by kernel_rfl) ⟨rfl, by decide, by decide⟩ ?F (fun w H s e s' h => TW.cx_never w H s e s' h)
    intro w mg fa h Y G hmg0
    obtain ⟨K, KX, c⟩ := Y
    have hmg : mg ("law" : PySem.Str) = some (.ref fa) := by
      have e : (HandSHeadRun.topDef (OpenLaw.row PySem.Challenge.rw_toldwhat_k70_counts_and_tales_refused).prog 85).name = ("law" : PySem.Str) := by kernel_rfl
      rw [← e]
      exact hmg0
    obtain ⟨g, gf, gt, gb, hg⟩ := K70.gok KX G c
    have e : Value.ref fa = .ref (He.ga K "law") := Option.some.inj (hmg.symm.trans (He.glo_ok KX G (c.t.d.fact 47 (f := .glo "law") rfl)))
    cases e
    refine ⟨K, KX, TW.law_at (tf := K70.htf) (D := K70.D_law) (kq := K70.kq) c.empty c.out c.hd KX gb hD fun base X' G' T => ?_⟩
    have z := K70.ok_law (P := (PySem.Challenge.rw_toldwhat_k70_counts_and_tales_refused).prog) (hg base T)
    rw [gf, gt] at z
    exact z

end
section
/-! data that are the same, by a Bool -/
namespace TW
open PySem
mutual
def sameD : PyData → PyData → Bool
  | .none, .none => true
  | .bool a, .bool b => decide (a = b)
  | .int a, .int b => decide (a = b)
  | .str a, .str b => decide (a = b)
  | .list a, .list b => sameDs a b
  | .tuple a, .tuple b => sameDs a b
  | _, _ => false
def sameDs : List PyData → List PyData → Bool
  | [], [] => true
  | a :: as, b :: bs => sameD a b && sameDs as bs
  | _, _ => false
end
mutual
theorem sameD_eq : ∀ (a b : PyData), sameD a b = true → a = b
  | .none, b, h => by cases b <;> simp [sameD] at h ⊢
  | .bool _, b, h => by cases b <;> simp [sameD] at h ⊢; exact h
  | .int _, b, h => by cases b <;> simp [sameD] at h ⊢; exact h
  | .str _, b, h => by cases b <;> simp [sameD] at h ⊢; exact h
  | .list a, b, h => by
    cases b <;> simp [sameD] at h ⊢
    exact sameDs_eq _ _ h
  | .tuple a, b, h => by
    cases b <;> simp [sameD] at h ⊢
    exact sameDs_eq _ _ h
  | .dict _, b, h => by cases b <;> simp [sameD] at h
theorem sameDs_eq : ∀ (a b : List PyData), sameDs a b = true → a = b
  | [], [], _ => rfl
  | [], _ :: _, h => by simp [sameDs] at h
  | _ :: _, [], h => by simp [sameDs] at h
  | a :: as, b :: bs, h => by
    simp only [sameDs, Bool.and_eq_true] at h
    rw [sameD_eq a b h.1, sameDs_eq as bs h.2]
end
end TW

end
section
/-! plain laws: loops and comprehensions by invariants. -/
namespace TW
open PySem PySem.Spec PyProof.Rows L2
section
variable {T : Tg} {tt : M Bool} {elt : M PyData} {own : List Nat} {b : M Fl}
/-- a comprehension whose items are f of what is walked -/
theorem lc_map {P : List Sl → Prop} {f : PyData → PyData} : ∀ {ds : List PyData} {acc : List PyData} {r : List Sl}, P r →
    (∀ d ∈ ds, ∀ r, P r → noIo r own = true ∧ ∃ r1 r2 r3, T d (wipeR r own) = some r1 ∧ tt r1 = .ok true r2 ∧ elt r2 = .ok (f d) r3 ∧ P r3) → ∃ r', lcF own T tt elt ds acc r = .ok (acc ++ ds.map f) r' ∧ P r'
  | [], acc, r, h, _ => ⟨r, by simp [lcF, M.ret], h⟩
  | d :: ds, acc, r, h, step => by
    obtain ⟨h1, r1, r2, r3, e1, e2, e3, h3⟩ := step d List.mem_cons_self r h
    obtain ⟨r', e, h'⟩ := lc_map (ds := ds) (acc := acc ++ [f d]) h3 fun z hz => step z (List.mem_cons_of_mem _ hz)
    exact ⟨r', by simp only [lcF, h1, if_true, e1, e2, e3, e]; simp, h'⟩
/-- a comprehension whose items are so -/
theorem lc_inv {P : List Sl → Prop} {Q : PyData → Prop} : ∀ {ds : List PyData} {acc : List PyData} {r : List Sl}, P r →
    (∀ d ∈ ds, ∀ r, P r → noIo r own = true ∧ ∃ r1 r2 r3 y, T d (wipeR r own) = some r1 ∧ tt r1 = .ok true r2 ∧ elt r2 = .ok y r3 ∧ Q y ∧ P r3) →
    ∃ ys r', lcF own T tt elt ds acc r = .ok (acc ++ ys) r' ∧ ys.length = ds.length ∧ (∀ y ∈ ys, Q y) ∧ P r'
  | [], acc, r, h, _ => ⟨[], r, by simp [lcF, M.ret], rfl, fun _ h => absurd h (by simp), h⟩
  | d :: ds, acc, r, h, step => by
    obtain ⟨h1, r1, r2, r3, y, e1, e2, e3, hq, h3⟩ := step d List.mem_cons_self r h
    obtain ⟨ys, r', e, hl, hys, h'⟩ := lc_inv (ds := ds) (acc := acc ++ [y]) h3 fun z hz => step z (List.mem_cons_of_mem _ hz)
    refine ⟨y :: ys, r', by simp only [lcF, h1, if_true, e1, e2, e3, e]; simp, by simp [hl], fun z hz => ?_, h'⟩
    rcases List.mem_cons.mp hz with rfl | hz
    · exact hq
    · exact hys z hz
/-- a loop that runs to its end -/
theorem for_inv {P : Nat → List Sl → Prop} : ∀ {ds : List PyData} {k : Nat} {r : List Sl}, P k r →
    (∀ (i : Nat) (d : PyData) (r : List Sl), ds[i]? = some d → P (k + i) r → ∃ r1 r2, T d r = some r1 ∧ (b r1 = .ok .nx r2 ∨ b r1 = .ok .ct r2) ∧ P (k + i + 1) r2) → ∃ r', forF T b ds r = .ok .nx r' ∧ P (k + ds.length) r'
  | [], k, r, h, _ => ⟨r, rfl, h⟩
  | d :: ds, k, r, h, step => by
    obtain ⟨r1, r2, e1, e2, h2⟩ := step 0 d r rfl h
    obtain ⟨r', e, h'⟩ := for_inv (ds := ds) (k := k + 1) (P := P) h2 fun i z s hz hs => by
      have q := step (i + 1) z s (by simpa using hz) (by rw [show k + (i + 1) = k + 1 + i by omega]; exact hs)
      rwa [show k + (i + 1) + 1 = k + 1 + i + 1 by omega] at q
    refine ⟨r', ?_, by rw [List.length_cons, show k + (ds.length + 1) = k + 1 + ds.length by omega]; exact h'⟩
    rcases e2 with e2 | e2
    · simp only [forF, e1, e2, e]
    · simp only [forF, e1, e2, e]
/-- all(..), any(..) that never stops: every turn answers the other way -/
theorem gen_thru {stop : Bool} {P : List Sl → Prop} : ∀ {ds : List PyData} {r : List Sl}, P r →
    (∀ d ∈ ds, ∀ r, P r → noIo r own = true ∧ ∃ r1 r2 r3, T d (wipeR r own) = some r1 ∧ tt r1 = .ok true r2 ∧ elt r2 = .ok (.bool (!stop)) r3 ∧ P r3) → ∃ r', genF stop own T tt elt ds r = .ok (.bool (!stop)) r' ∧ P r'
  | [], r, h, _ => ⟨r, rfl, h⟩
  | d :: ds, r, h, step => by
    obtain ⟨h1, r1, r2, r3, e1, e2, e3, h3⟩ := step d List.mem_cons_self r h
    obtain ⟨r', e, h'⟩ := gen_thru (stop := stop) (ds := ds) h3 fun z hz => step z (List.mem_cons_of_mem _ hz)
    refine ⟨r', ?_, h'⟩
    have hn : ¬ ((!stop) = stop) := by cases stop <;> simp
    simp only [genF, h1, if_true, e1, e2, e3, hn, if_false, e]
/-- .. that stops at the j-th -/
theorem gen_stop {stop : Bool} {P : List Sl → Prop} : ∀ {ds : List PyData} {r : List Sl}, P r →
    (∀ d ∈ ds, ∀ r, P r → noIo r own = true ∧ ∃ k r1 r2 r3, T d (wipeR r own) = some r1 ∧ tt r1 = .ok true r2 ∧ elt r2 = .ok (.bool k) r3 ∧ P r3) →
    (∃ d ∈ ds, ∀ r k r1 r2 r3, P r → T d (wipeR r own) = some r1 → tt r1 = .ok true r2 → elt r2 = .ok (.bool k) r3 → k = stop) → ∃ r', genF stop own T tt elt ds r = .ok (.bool stop) r' ∧ P r'
  | [], r, h, _, hs => by obtain ⟨d, hd, _⟩ := hs; cases hd
  | d :: ds, r, h, step, hs => by
    obtain ⟨h1, k, r1, r2, r3, e1, e2, e3, h3⟩ := step d List.mem_cons_self r h
    by_cases hk : k = stop
    · exact ⟨r3, by simp only [genF, h1, if_true, e1, e2, e3, hk, if_true], h3⟩
    · obtain ⟨z, hz, q⟩ := hs
      have hz' : z ∈ ds := by
        rcases List.mem_cons.mp hz with rfl | hz
        · exact absurd (q r k r1 r2 r3 h e1 e2 e3) hk
        · exact hz
      obtain ⟨r', e, h'⟩ := gen_stop (stop := stop) (ds := ds) h3 (fun z hz => step z (List.mem_cons_of_mem _ hz)) ⟨z, hz', q⟩
      exact ⟨r', by simp only [genF, h1, if_true, e1, e2, e3, hk, if_false, e], h'⟩
end
end TW

end
section
/-! slots that are nobody's: what the assignments do there -/
namespace TW
open PySem PySem.Spec PyProof.Rows L2
def nio : Sl → Bool
  | .io _ => false
  | .xo _ => false
  | _ => true
theorem nio_io (x : Sl) : nio x = !x.isIo := by cases x <;> rfl
theorem gN_eq (i : Nat) (d : PyData) (r : List Sl) : gN i d r = match r[i]? with
  | some x => if nio x then some (r.set i (.v d)) else none
  | none => none := by
  unfold gN
  cases r[i]? with
  | none => rfl
  | some x => cases x <;> rfl
theorem tSet_eq (i : Nat) (d : PyData) (r : List Sl) : tSet i d r = match r[i]? with
  | some x => if nio x then .ok .nx (r.set i (.v d)) else .st
  | none => .st := by
  unfold tSet
  cases r[i]? with
  | none => rfl
  | some x => cases x <;> rfl
theorem tSetL_eq (i : Nat) (d : List PyData) (r : List Sl) : tSetL i d r = match r[i]? with
  | some x => if nio x then .ok .nx (r.set i (.l d)) else .st
  | none => .st := by
  unfold tSetL
  cases r[i]? with
  | none => rfl
  | some x => cases x <;> rfl
theorem noIo_eq (r : List Sl) (own : List Nat) : noIo r own = own.all fun v => match r[v]? with
  | some x => nio x
  | none => true := by
  unfold noIo
  congr 1
  funext v
  cases r[v]? with
  | none => rfl
  | some x => cases x <;> rfl
end TW
namespace TW
open PySem PySem.Spec PyProof.Rows L2
def wp : Sl → Sl
  | .v d => .v d
  | _ => .un
theorem nio_wp (x : Sl) : nio (wp x) = true := by cases x <;> rfl
theorem unwipe_eq (own : List Nat) (r0 r : List Sl) : unwipe own r0 r = r.mapIdx fun k x => if own.contains k then (match r0[k]? with
  | some x => wp x
  | none => .un) else x := by
  unfold unwipe
  congr 1
  funext k x
  split
  · cases r0[k]? with
    | none => rfl
    | some x => cases x <;> rfl
  · rfl
theorem enumD_get {ds : List PyData} {i : Nat} {d : PyData} (h : (enumD ds)[i]? = some d) : ∃ x, ds[i]? = some x ∧ d = .tuple [.int (i : Nat), x] := by
  unfold enumD at h
  simp only [List.getElem?_map, List.getElem?_zipIdx, Option.map_map, Nat.zero_add] at h
  cases e : ds[i]? with
  | none => rw [e] at h; cases h
  | some x =>
    rw [e] at h
    cases h
    exact ⟨x, rfl, rfl⟩
theorem enumD_len (ds : List PyData) : (enumD ds).length = ds.length := by simp [enumD]
theorem zipT_get {xs ys : List PyData} {i : Nat} {d : PyData} (h : ((xs.zip ys).map fun p => PyData.tuple [p.1, p.2])[i]? = some d) : ∃ x y, xs[i]? = some x ∧ ys[i]? = some y ∧ d = .tuple [x, y] := by
  simp only [List.getElem?_map, List.getElem?_zip_eq_some, Option.map_eq_some_iff] at h
  obtain ⟨⟨x, y⟩, h1, h2⟩ := h
  exact ⟨x, y, h1.1, h1.2, h2.symm⟩
end TW
namespace TW
open PySem PySem.Spec PyProof.Rows L2
theorem sh_int (i : Int) : SeqAt.shaped (.int i) = true := by rfl
theorem sh_bool (i : Bool) : SeqAt.shaped (.bool i) = true := by cases i <;> rfl
theorem sh_none : SeqAt.shaped .none = true := by rfl
theorem eqv_int (a b : Int) : PyData.eqv (.int a) (.int b) = decide (a = b) := by
  simp only [PyData.eqv]
  by_cases h : a = b
  · simp [h]
  · simp [h]
theorem eqv_bool (a b : Bool) : PyData.eqv (.bool a) (.bool b) = decide (a = b) := by cases a <;> cases b <;> rfl
theorem eqv_none : PyData.eqv .none .none = true := by rfl
end TW
namespace TW
theorem nio_un : nio .un = true := rfl
theorem nio_v (d : PySem.PyData) : nio (.v d) = true := rfl
theorem nio_l (d : List PySem.PyData) : nio (.l d) = true := rfl
end TW
namespace TW
open PySem PySem.Spec PyProof.Rows L2
theorem two62 : (2 : Int) ^ 62 = 4611686018427387904 := by decide
theorem iRange1_at (j : Int) : TW.iRange1 [.int j] = if -(2 ^ 62) ≤ j ∧ j < 2 ^ 62 then (.ret (rangeD 0 j.toNat) : M (List PyData)) else .st := by
  rw [iRange1]
theorem iRange1_eq (n : Nat) (h : n ≤ 1000000000) : TW.iRange1 [.int n] = (.ret (rangeD 0 n) : M (List PyData)) := by
  have h1 : -(2 ^ 62) ≤ (n : Int) ∧ (n : Int) < 2 ^ 62 := by
    rw [two62]
    constructor <;> omega
  rw [iRange1_at, if_pos h1, Int.toNat_natCast]
theorem iRange2_at (i j : Int) : TW.iRange2 [.int i, .int j] = if -(2 ^ 62) ≤ i ∧ i < 2 ^ 62 ∧ -(2 ^ 62) ≤ j ∧ j < 2 ^ 62 then (.ret (rangeD i (j - i).toNat) : M (List PyData)) else .st := by
  rw [iRange2]
theorem iRange2_eq (m n : Nat) (h : n ≤ 1000000000) (h2 : m ≤ n) : TW.iRange2 [.int m, .int n] = (.ret (rangeD m (n - m)) : M (List PyData)) := by
  have h1 : -(2 ^ 62) ≤ (m : Int) ∧ (m : Int) < 2 ^ 62 ∧ -(2 ^ 62) ≤ (n : Int) ∧ (n : Int) < 2 ^ 62 := by
    rw [two62]
    refine ⟨?_, ?_, ?_, ?_⟩ <;> omega
  have h3 : ((n : Int) - (m : Int)).toNat = n - m := by omega
  rw [iRange2_at, if_pos h1, h3]
end TW
namespace TW
open PySem PySem.Spec PyProof.Rows L2
theorem aBind_ok {α : Type} {a : M (List TW.Arg)} {r r' : List Sl} {as : List Arg} {ds : List PyData} (k : List PyData → M α) (h : a r = .ok as r') (hv : allV as = some ds) : aBind a k r = k ds r' := by
  simp only [aBind, M.bind, Res.bind, h, hv]
theorem range1_ok {a : M (List TW.Arg)} {r r' : List Sl} {n : Nat} (h : a r = .ok [.v (.int n)] r') (hn : n ≤ 1000000000) : aBind a TW.iRange1 r = .ok (rangeD 0 n) r' := by
  rw [aBind_ok TW.iRange1 h rfl, iRange1_eq n hn]
  rfl
theorem range2_ok {a : M (List TW.Arg)} {r r' : List Sl} {m n : Nat} (h : a r = .ok [.v (.int m), .v (.int n)] r') (hn : n ≤ 1000000000) (hm : m ≤ n) : aBind a TW.iRange2 r = .ok (rangeD m (n - m)) r' := by
  rw [aBind_ok TW.iRange2 h rfl, iRange2_eq m n hn hm]
  rfl
end TW
namespace TW
open PySem PySem.Spec PyProof.Rows L2
theorem fEq_int (a b : Int) : fEq (.int a) (.int b) = some (.bool (decide (a = b))) := by rw [fEq, sh_int, sh_int, eqv_int]; rfl
theorem fNe_int (a b : Int) : fNe (.int a) (.int b) = some (.bool (!decide (a = b))) := by rw [fNe, sh_int, sh_int, eqv_int]; rfl
theorem fEq_bool (a b : Bool) : fEq (.bool a) (.bool b) = some (.bool (decide (a = b))) := by rw [fEq, sh_bool, sh_bool, eqv_bool]; rfl
theorem fNe_bool (a b : Bool) : fNe (.bool a) (.bool b) = some (.bool (!decide (a = b))) := by rw [fNe, sh_bool, sh_bool, eqv_bool]; rfl
theorem fEq_none : fEq .none .none = some (.bool true) := by rw [fEq, sh_none, eqv_none]; rfl
theorem fEq_nil : fEq (.list []) (.list []) = some (.bool true) := by rfl
end TW
namespace TW
open PySem PySem.Spec PyProof.Rows L2
/-! step by step -/
theorem sIf_t {t : M Bool} {a b : M Fl} {r r' : List Sl} (h : t r = .ok true r') : sIf t a b r = a r' := by simp only [sIf, M.bind, Res.bind, h, if_true]
theorem sIf_f {t : M Bool} {a b : M Fl} {r r' : List Sl} (h : t r = .ok false r') : sIf t a b r = b r' := by
  simp only [sIf, M.bind, Res.bind, h]
  rfl
theorem sSeq_nx {a b : M Fl} {r r' : List Sl} (h : a r = .ok .nx r') : sSeq a b r = b r' := by simp only [sSeq, h]
theorem sSeq_rt {a b : M Fl} {r r' : List Sl} {d : PyData} (h : a r = .ok (.rt d) r') : sSeq a b r = .ok (.rt d) r' := by simp only [sSeq, h]
theorem sRet_ok {a : M PyData} {r r' : List Sl} {d : PyData} (h : a r = .ok d r') : sRet a r = .ok (.rt d) r' := by simp only [sRet, M.bind, Res.bind, h, M.ret]
theorem sDrop_ok {a : M PyData} {r r' : List Sl} {d : PyData} (h : a r = .ok d r') : sDrop a r = .ok .nx r' := by simp only [sDrop, M.bind, Res.bind, h, M.ret]
theorem sFor_ok {it : M (List PyData)} {T : Tg} {b : M Fl} {r r' : List Sl} {ds : List PyData} (h : it r = .ok ds r') : sFor it T b r = forF T b ds r' := by simp only [sFor, M.bind, Res.bind, h]
theorem lLc_ok {own : List Nat} {it : M (List PyData)} {T : Tg} {tt : M Bool} {elt : M PyData} {r r' : List Sl} {ds : List PyData} (h : it r = .ok ds r') : lLc own it T tt elt r = lcB own T tt elt ds r' := by simp only [lLc, M.bind, Res.bind, h]
theorem dGen_ok {stop : Bool} {own : List Nat} {it : M (List PyData)} {T : Tg} {tt : M Bool} {elt : M PyData} {r r' : List Sl} {ds : List PyData} (h : it r = .ok ds r') : dGen stop own it T tt elt r = genB stop own T tt elt ds r' := by simp only [dGen, M.bind, Res.bind, h]
theorem lcB_ok {own : List Nat} {T : Tg} {tt : M Bool} {elt : M PyData} {r r' : List Sl} {ds ys : List PyData} (hl : ds.length ≤ sizeLine) (h : lcF own T tt elt ds [] r = .ok ys r') (hn : noIo r' own = true) : lcB own T tt elt ds r = .ok ys (unwipe own r r') := by
  simp only [lcB, hl, if_true, h, hn]
theorem fnOf_rt {n N : Nat} {b : M Fl} {sl r : List Sl} {d : PyData} (hl : sl.length = n) (h : b (sl ++ List.replicate (N - n) .un) = .ok (.rt d) r) : fnOf n N b sl = .ok d r := by
  simp only [fnOf, hl, if_true, h]
theorem fnOf_nx {n N : Nat} {b : M Fl} {sl r : List Sl} (hl : sl.length = n) (h : b (sl ++ List.replicate (N - n) .un) = .ok .nx r) : fnOf n N b sl = .ok .none r := by
  simp only [fnOf, hl, if_true, h]
theorem bind_ok {α β : Type} {a : M α} {k : α → M β} {r r' : List Sl} {x : α} (h : a r = .ok x r') : (a.bind k) r = k x r' := by simp only [M.bind, Res.bind, h]
theorem dBin_oV {f : PyData → PyData → Option PyData} {a b : M PyData} {r r1 r2 : List Sl} {x y z : PyData} (h1 : a r = .ok x r1) (h2 : b r1 = .ok y r2) (h : f x y = some z) : dBin f (oV a) (oV b) r = .ok z r2 := by
  simp only [dBin, two, oV, M.bind, Res.bind, h1, h2, M.ret, reso, M.opt, h]
theorem dFz_ok {a : M (List PyData)} {r r' : List Sl} {ds : List PyData} (h : a r = .ok ds r') : dFz a r = .ok (.list ds) r' := by simp only [dFz, M.bind, Res.bind, h, M.ret]
theorem sizeLine_le {n : Nat} (h : n ≤ 1000000) : n ≤ sizeLine := by
  rw [sizeLine_eq]
  omega
end TW
namespace TW
theorem sIf_no {t : M Bool} {a : M Fl} {r r' : List Sl} (h : t r = .ok false r') : sIf t a sNil r = .ok .nx r' := by
  rw [sIf_f h]
  rfl
end TW

end
section
/-! the plain law of k09 -/
namespace K70
open PySem PySem.Spec PyProof.Rows L2 TW
def row (ns : List Int) (i h c : Int) : List PyData := [scr ns, .int i, .int h, .int c]
theorem taken1 {ns : List Int} {i h c m : Int} (hm : 0 < m) (hm2 : m < 1073741824) (hc : 0 < c) :
    D__law_taken [.io (row ns i h c), .v (.int m)] = .ok (.int (c % m)) [.io (row ns i h (c / m)), .v (.int m), .v (.int (c % m)), .un] := by
  simp [D__law_taken, fnOf, row, sSeq, sIf, dBin, two, oV, oN, dC, M.bind, Res.bind, M.ret, reso, fIx, M.opt, asB, fGt, fCmp, hc, sSetX, xV, tSetX, fMod, fInt, dFx, xFn, aO, aNil, resA, fToInt, hm, sPutN, fDiv, hm2, sRet, dVar, ownAt, Sl.own, atI, ixN, tSet, tPut, TW.putAt, setAt, Sl.put, Ow.dat, Ow.io, Sl.giv, Sl.isIo, dicAt, setOw]
theorem taken2 {ns : List Int} {i h c m : Int} (hm : 0 < m) (hm2 : m < 1073741824) (hc : ¬ 0 < c) (hi : (ns.length : Int) < i + 1) :
    D__law_taken [.io (row ns i h c), .v (.int m)] = .ok (.int ((h * 48271 + 11) % 2147483647 / 7 % m)) [.io (row ns (i + 1) ((h * 48271 + 11) % 2147483647) c), .v (.int m), .un, .un] := by
  simp [D__law_taken, fnOf, row, sSeq, sIf, dBin, two, oV, oN, dC, M.bind, Res.bind, M.ret, reso, fIx, M.opt, asB, fGt, fCmp, hc, sSetX, xV, tSetX, fMod, fInt, dFx, xFn, aO, aNil, resA, fToInt, hm, sPutN, fDiv, hm2, sRet, dVar, ownAt, Sl.own, atI, ixN, tSet, tPut, TW.putAt, setAt, Sl.put, Ow.dat, Ow.io, Sl.giv, Sl.isIo, dicAt, setOw, sNil, xBin, fAdd, fMul, fLen, scr, hi]
theorem taken3 {ns : List Int} {i h c m x : Int} {j : Nat} (hm : 0 < m) (hm2 : m < 1073741824) (hc : ¬ 0 < c) (hj : i = j) (hx : ns[j]? = some x) : ∃ out,
    D__law_taken [.io (row ns i h c), .v (.int m)] = .ok (.int (x % m)) (.io (row ns (i + 1) ((h * 48271 + x + 11) % 2147483647) (if 1000000000000000000 ≤ x then x / m else c)) :: out) := by
  have hl : j < ns.length := (List.getElem?_eq_some_iff.mp hx).1
  have hi : ¬ ((ns.length : Int) < i + 1) := by omega
  have h1 : i + 1 - 1 = (j : Int) := by omega
  have h2 : ((j : Int) < (ns.length : Int)) := by omega
  by_cases hb : (1000000000000000000 : Int) ≤ x
  · simp [D__law_taken, fnOf, row, sSeq, sIf, dBin, two, oV, oN, dC, M.bind, Res.bind, M.ret, reso, fIx, M.opt, asB, fGt, fCmp, hc, sSetX, xV, tSetX, fMod, fInt, dFx, xFn, aO, aNil, resA, fToInt, hm, sPutN, fDiv, hm2, sRet, dVar, ownAt, Sl.own, atI, ixN, tSet, tPut, TW.putAt, setAt, Sl.put, Ow.dat, Ow.io, Sl.giv, Sl.isIo, dicAt, setOw, sNil, xBin, fAdd, fMul, fLen, scr, hi, fSub, h1, h2, hx, fPow, fGe, hb]
  · simp [D__law_taken, fnOf, row, sSeq, sIf, dBin, two, oV, oN, dC, M.bind, Res.bind, M.ret, reso, fIx, M.opt, asB, fGt, fCmp, hc, sSetX, xV, tSetX, fMod, fInt, dFx, xFn, aO, aNil, resA, fToInt, hm, sPutN, fDiv, hm2, sRet, dVar, ownAt, Sl.own, atI, ixN, tSet, tPut, TW.putAt, setAt, Sl.put, Ow.dat, Ow.io, Sl.giv, Sl.isIo, dicAt, setOw, sNil, xBin, fAdd, fMul, fLen, scr, hi, fSub, h1, h2, hx, fPow, fGe, hb]
theorem taken {ns : List Int} {i h c m : Int} (hm : 0 < m) (hm2 : m < 1073741824) (hi : 0 ≤ i) : ∃ t i' h' c' out, 0 ≤ t ∧ t < m ∧ 0 ≤ i' ∧ D__law_taken [.io (row ns i h c), .v (.int m)] = .ok (.int t) (.io (row ns i' h' c') :: out) := by
  by_cases hc : 0 < c
  · exact ⟨_, _, _, _, _, Int.emod_nonneg _ (by omega), Int.emod_lt_of_pos _ hm, hi, taken1 hm hm2 hc⟩
  · by_cases hl : (ns.length : Int) < i + 1
    · exact ⟨_, i + 1, _, _, _, Int.emod_nonneg _ (by omega), Int.emod_lt_of_pos _ hm, by omega, taken2 hm hm2 hc hl⟩
    · have hlt : i.toNat < ns.length := by omega
      obtain ⟨out, e⟩ := taken3 (i := i) (h := h) (c := c) (m := m) (x := ns[i.toNat]) (j := i.toNat) hm hm2 hc (by omega) (List.getElem?_eq_getElem hlt)
      exact ⟨_, i + 1, _, _, out, Int.emod_nonneg _ (by omega), Int.emod_lt_of_pos _ hm, by omega, e⟩
theorem pick {ns : List Int} {i h c : Int} {ds : List PyData} (h1 : 1 ≤ ds.length) (h2 : ds.length < 1073741824) (hi : 0 ≤ i) : ∃ (j : Nat) (d : PyData) (i' h' c' : Int) (out : List Sl), ds[j]? = some d ∧ 0 ≤ i' ∧
    D__law_pick [.io (row ns i h c), .v (.list ds)] = .ok d (.io (row ns i' h' c') :: out) := by
  obtain ⟨t, i', h', c', out, t0, t1, hi', e⟩ := taken (ns := ns) (h := h) (c := c) (m := ds.length) (by omega) (by omega) hi
  have hj : t.toNat < ds.length := by omega
  refine ⟨t.toNat, ds[t.toNat], i', h', c', [.v (.list ds)], List.getElem?_eq_getElem hj, hi', ?_⟩
  have hx := List.getElem?_eq_getElem hj
  have t1' : t < (ds.length : Int) := t1
  simp [D__law_pick, fnOf, sRet, dBin, two, oN, oV, M.bind, Res.bind, M.ret, reso, dCall, aIo, aV, aNil, dFx, xFn, aO, resA, fLen, M.opt, Sl.own, nodupB, ioIx, argsSl, e, backSl, Sl.put, Ow.dat, Ow.io, Sl.giv, Sl.isIo, dicAt, setOw, fIx, atI, ixN, t0, t1', hx]
end K70

end
section
namespace K70
open PySem PySem.Spec PyProof.Rows L2 TW
/-- taken, called where the row is an own list of the caller -/
theorem call_taken {r : List Sl} {k : Nat} {ns : List Int} {i h c m : Int} {de : M PyData} (h1 : r[k]? = some (.l (row ns i h c))) (hd : de r = .ok (.int m) r) (hm : 0 < m) (hm2 : m < 1073741824) (hi : 0 ≤ i) :
    ∃ t i' h' c', 0 ≤ t ∧ t < m ∧ 0 ≤ i' ∧ dCall D__law_taken (aIo k (aV de aNil)) r = .ok (.int t) (r.set k (.l (row ns i' h' c'))) := by
  obtain ⟨t, i', h', c', out, t0, t1, hi', e⟩ := taken (ns := ns) (h := h) (c := c) hm hm2 hi
  refine ⟨t, i', h', c', t0, t1, hi', ?_⟩
  simp [dCall, aIo, aV, aNil, M.bind, Res.bind, M.ret, h1, Sl.own, hd, nodupB, ioIx, argsSl, e, backSl, Sl.put, Ow.io, Sl.giv, Sl.isIo]
theorem call_pick {r : List Sl} {k : Nat} {ns : List Int} {i h c : Int} {de : M PyData} {ds : List PyData} (h1 : r[k]? = some (.l (row ns i h c))) (hd : de r = .ok (.list ds) r) (hl : 1 ≤ ds.length) (hl2 : ds.length < 1073741824) (hi : 0 ≤ i) :
    ∃ (j : Nat) (d : PyData) (i' h' c' : Int), ds[j]? = some d ∧ 0 ≤ i' ∧ dCall D__law_pick (aIo k (aV de aNil)) r = .ok d (r.set k (.l (row ns i' h' c'))) := by
  obtain ⟨j, d, i', h', c', out, hj, hi', e⟩ := pick (ns := ns) (h := h) (c := c) hl hl2 hi
  refine ⟨j, d, i', h', c', hj, hi', ?_⟩
  simp [dCall, aIo, aV, aNil, M.bind, Res.bind, M.ret, h1, Sl.own, hd, nodupB, ioIx, argsSl, e, backSl, Sl.put, Ow.io, Sl.giv, Sl.isIo]
end K70

end
section
namespace K70
open PySem PySem.Spec PyProof.Rows L2 TW
def exB (c : Str) : Res PyData → Bool
  | .ex e _ => e.c == c
  | _ => false
theorem exB_ok {c : Str} {x : Res PyData} (h : exB c x = true) : ∃ fs out, x = .ex ⟨c, fs⟩ out := by
  cases x with
  | ex e out =>
    obtain ⟨c', fs⟩ := e
    have : c' = c := by simpa [exB] using h
    subst this
    exact ⟨fs, out, rfl⟩
  | ok _ _ => cases h
  | st => cases h
/-- the law's own telling -/
abbrev told (d : M PyData) : M PyData := dTold 4 2 cs_all (fun _ => (unN 4).set 1 (.v .none)) hd__law_error pst__law_error d
def code (c : Str) : Option Int := if c = "BadWorld" then some 1 else if c = "BadNumber" then some 2 else if c = "BadQuestion" then some 3 else if c = "BadEdits" then some 4 else if c = "BadKeeper" then some 5 else if c = "BadString" then some 7 else if c = "NoKeeper" then some 9 else none
theorem told_ex {c : Str} {k : Int} {d : M PyData} {r r1 : List Sl} {fs : List (Str × PyData)} (hk : code c = some k) (h : d r = .ex ⟨c, fs⟩ r1) : told d r = .ok (.int k) r1 := by
  unfold told dTold
  rw [h]
  unfold code at hk
  repeat' split at hk
  all_goals first | cases hk; rename_i e; subst e; rfl | cases hk
end K70

end
section
namespace K70
open PySem PySem.Spec PyProof.Rows L2 TW
theorem args_v {r : List Sl} : ∀ as : List PyData, argsSl r (as.map Arg.v) = some (as.map Sl.v)
  | [] => rfl
  | a :: as => by simp [argsSl, args_v as]
theorem io_v : ∀ as : List PyData, ioIx (as.map Arg.v) = []
  | [] => rfl
  | a :: as => by simp [ioIx, io_v as]
theorem back_v {out r : List Sl} : ∀ (as : List PyData) (j : Nat), backSl out (as.map Arg.v) j r = r
  | [], _ => rfl
  | a :: as, j => by simp [backSl, back_v as]
theorem told_call {c : Str} {k : Int} {fn : M PyData} {ra : M (List TW.Arg)} {r r1 : List Sl} (as : List PyData) (hk : code c = some k) (ha : ra r = .ok (as.map Arg.v) r1) (h : exB c (fn (as.map Sl.v)) = true) : told (dCall fn ra) r = .ok (.int k) r1 := by
  obtain ⟨fs, out, e⟩ := exB_ok h
  refine told_ex hk (c := c) (fs := fs) ?_
  unfold dCall M.bind
  rw [ha]
  simp [Res.bind, io_v, nodupB, args_v, e, back_v]
def Ns : List PyData := [.none, .int 0, .int 4, .bool true, .str "1"]
def fine : PyData := .tuple [.int 2, .tuple [.tuple [.int 0, .int 0]], .tuple [.int 0]]
def ends : PyData := .tuple [.int 2, .tuple [.tuple [.int 0, .int 1], .tuple [.int 0, .int 1]], .tuple [.int 0, .int 1]]
def Qs : List PyData := [.none, .tuple [.int 2], .tuple [.int 0, .tuple [], .tuple []], .tuple [.int 2, .tuple [.tuple [.int 0]], .tuple [.int 0]], .tuple [.int 2, .tuple [.tuple [.int 0, .int 0]], .tuple [.int 4]], .tuple [.int 2, .tuple [.tuple [.int 0, .int 1]], .tuple [.int 0]]]
def Cs : List PyData := [.none, .tuple [], .tuple [.int 1], .tuple [.int 1, .int 2, .int 3], .tuple [.int 1, .int 21], .tuple [.int (-1), .int 0], .tuple [.bool true, .int 0], .list [.int 1, .int 1]]
def Ms : List PyData := [.none, .int (-1), .int 6, .bool true]
theorem f1 : (Qs.all fun q => Cs.all fun c => exB "BadQuestion" (D_arrangements [.v q, .v c])) = true := by decide +kernel
theorem f2 : (Cs.all fun c => exB "BadNumber" (D_possible [.v fine, .v c])) = true := by decide +kernel
theorem f3 : (Cs.all fun c => exB "BadNumber" (D_is_sure [.v fine, .v c])) = true := by decide +kernel
theorem f4 : (Qs.all fun q => exB "BadQuestion" (D_sure_counts [.v q, .v .none])) = true := by decide +kernel
theorem f5 : (Ms.all fun m => exB "BadNumber" (D_sure_counts [.v fine, .v m])) = true := by decide +kernel
theorem f6 : exB "BadWorld" (D_write_tale [.v (.str "cut"), .v .none, .v .none]) = true := by decide +kernel
theorem f7 : (Ns.all fun n => exB "BadNumber" (D_write_tale [.v (.str "end"), .v n, .v .none])) = true := by decide +kernel
theorem f8 : exB "BadEdits" (D_write_tale [.v (.str "end"), .v (.int 2), .v .none]) = true := by decide +kernel
theorem f9 : (Ns.all fun n => exB "BadNumber" (D_read_tale [.v (.str "end"), .v n, .v .none])) = true := by decide +kernel
theorem f10 : exB "BadString" (D_read_tale [.v (.str "end"), .v (.int 2), .v .none]) = true := by decide +kernel
theorem f11 : exB "BadWorld" (D_tale [.v (.str "cut"), .v .none, .v .none]) = true := by decide +kernel
theorem f12 : (Qs.all fun q => exB "BadQuestion" (D_tale [.v (.str "in"), .v q, .v .none])) = true := by decide +kernel
theorem f13 : exB "BadEdits" (D_tale [.v (.str "in"), .v ends, .v .none]) = true := by decide +kernel
theorem f14 : exB "NoKeeper" (D_tale [.v (.str "in"), .v ends, .v (.tuple [])]) = true := by decide +kernel
theorem f15 : exB "NoKeeper" (D_is_kept_true [.v (.str "in"), .v ends, .v (.tuple [])]) = true := by decide +kernel
theorem f16 : exB "BadKeeper" (D_write_keeper [.v (.str "end"), .v (.int 2), .v .none]) = true := by decide +kernel
theorem f17 : exB "BadString" (D_read_keeper [.v (.str "end"), .v (.int 2), .v .none]) = true := by decide +kernel
end K70

end
section
namespace K70
open PySem PySem.Spec PyProof.Rows L2 TW
theorem one_step {d : M PyData} {r r1 : List Sl} {xs : List PyData} {v : PyData} (hd : d r = .ok v r1) (h0 : r[6]? = some (.l xs)) (h1 : r1[6]? = some (.l xs)) (hl : xs.length < 1000) :
    sSetX 6 (xBin fAdd (oN 6) (oV (dFz (lLst (aV d aNil))))) r = .ok .nx (r1.set 6 (.l (xs ++ [v]))) := by
  have hz : xs.length + 1 ≤ sizeLine := by have : (1001 : Nat) ≤ sizeLine := by decide
                                           omega
  have h1z : 1 ≤ sizeLine := by decide
  simp [sSetX, xBin, two, M.opt, aBind, h1z, fAdd, oN, oV, dFz, lLst, aV, aNil, M.bind, Res.bind, M.ret, h0, h1, hd, Sl.own, Ow.dat, reso, resA, allV, hz, tSetX, tSetL, Sl.isIo]
theorem in_of {ds : List PyData} {j : Nat} {d : PyData} (h : ds[j]? = some d) : d ∈ ds := List.mem_of_getElem? h
theorem all_at {l : List PyData} {f : PyData → Bool} (h : l.all f = true) {d : PyData} (hd : d ∈ l) : f d = true := List.all_eq_true.mp h d hd
theorem two_step {d e : M PyData} {r r1 r2 : List Sl} {v w : PyData} {y : Sl} (hd : d r = .ok v r1) (he : e r1 = .ok w r2) (h1 : r2[6]? = some y) (hy : y.isIo = false) : sSetX 6 (xL (lLst (aV d (aV e aNil)))) r = .ok .nx (r2.set 6 (.l [v, w])) := by
  have h2z : 2 ≤ sizeLine := by decide
  simp [sSetX, xL, lLst, aV, aBind, aNil, M.bind, Res.bind, M.ret, hd, he, allV, h2z, tSetX, tSetL, h1, hy]
theorem aV_two {d e : M PyData} {r r1 r2 : List Sl} {v w : PyData} (hd : d r = .ok v r1) (he : e r1 = .ok w r2) : aV d (aV e aNil) r = .ok ([v, w].map TW.Arg.v) r2 := by
  simp [aV, aNil, M.bind, Res.bind, M.ret, hd, he]
def s0 : M Fl := (sSetX 1 (xL (lLst (aV (dVar 0) (aV (dC (.int 0)) (aV (dC (.int 11210)) (aV (dC (.int 0)) aNil)))))))
def s1 : M Fl := (sPar [2, 3] (axCons (xV (dCall (D__law_pick) (aIo 1 (aV (dFz (lLst (aV (dC .none) (aV (dC (.int 0)) (aV (dC (.int 4)) (aV (dC (.bool true)) (aV (dC (.str "1")) aNil))))))) aNil)))) (axCons (xV (dTup (aV (dC (.int 2)) (aV (dTup (aV (dTup (aV (dC (.int 0)) (aV (dC (.int 0)) aNil))) aNil)) (aV (dTup (aV (dC (.int 0)) aNil)) aNil))))) axNil)))
def s2 : M Fl := (sSetX 4 (xV (dCall (D__law_pick) (aIo 1 (aV (dFz (lLst (aV (dC .none) (aV (dTup (aV (dC (.int 2)) aNil)) (aV (dTup (aV (dC (.int 0)) (aV (dTup aNil) (aV (dTup aNil) aNil)))) (aV (dTup (aV (dC (.int 2)) (aV (dTup (aV (dTup (aV (dC (.int 0)) aNil)) aNil)) (aV (dTup (aV (dC (.int 0)) aNil)) aNil)))) (aV (dTup (aV (dC (.int 2)) (aV (dTup (aV (dTup (aV (dC (.int 0)) (aV (dC (.int 0)) aNil))) aNil)) (aV (dTup (aV (dC (.int 4)) aNil)) aNil)))) (aV (dTup (aV (dC (.int 2)) (aV (dTup (aV (dTup (aV (dC (.int 0)) (aV (dC (.int 1)) aNil))) aNil)) (aV (dTup (aV (dC (.int 0)) aNil)) aNil)))) aNil)))))))) aNil)))))
def s3 : M Fl := (sSetX 5 (xV (dCall (D__law_pick) (aIo 1 (aV (dFz (lLst (aV (dC .none) (aV (dTup aNil) (aV (dTup (aV (dC (.int 1)) aNil)) (aV (dTup (aV (dC (.int 1)) (aV (dC (.int 2)) (aV (dC (.int 3)) aNil)))) (aV (dTup (aV (dC (.int 1)) (aV (dC (.int 21)) aNil))) (aV (dTup (aV (dNeg (dC (.int 1))) (aV (dC (.int 0)) aNil))) (aV (dTup (aV (dC (.bool true)) (aV (dC (.int 0)) aNil))) (aV (dFz (lLst (aV (dC (.int 1)) (aV (dC (.int 1)) aNil)))) aNil)))))))))) aNil)))))
def s4 : M Fl := (sSetX 6 (xL (lLst (aV (dTold 4 2 cs_all (fun _ => (unN 4).set 1 (.v .none)) hd__law_error pst__law_error (dCall (D_arrangements) (aV (dVar 4) (aV (dVar 5) aNil)))) (aV (dTold 4 2 cs_all (fun _ => (unN 4).set 1 (.v .none)) hd__law_error pst__law_error (dCall (D_possible) (aV (dVar 3) (aV (dVar 5) aNil)))) aNil)))))
def s5 : M Fl := (sSetX 6 (xBin fAdd (oN 6) (oV (dFz (lLst (aV (dTold 4 2 cs_all (fun _ => (unN 4).set 1 (.v .none)) hd__law_error pst__law_error (dCall (D_is_sure) (aV (dVar 3) (aV (dVar 5) aNil)))) aNil))))))
def s6 : M Fl := (sSetX 6 (xBin fAdd (oN 6) (oV (dFz (lLst (aV (dTold 4 2 cs_all (fun _ => (unN 4).set 1 (.v .none)) hd__law_error pst__law_error (dCall (D_sure_counts) (aV (dVar 4) (aV (dC .none) aNil)))) aNil))))))
def s7 : M Fl := (sSetX 6 (xBin fAdd (oN 6) (oV (dFz (lLst (aV (dTold 4 2 cs_all (fun _ => (unN 4).set 1 (.v .none)) hd__law_error pst__law_error (dCall (D_sure_counts) (aV (dVar 3) (aV (dCall (D__law_pick) (aIo 1 (aV (dFz (lLst (aV (dC .none) (aV (dNeg (dC (.int 1))) (aV (dC (.int 6)) (aV (dC (.bool true)) aNil)))))) aNil))) aNil)))) aNil))))))
def s8 : M Fl := (sSetX 7 (xV (dTup (aV (dC (.int 2)) (aV (dTup (aV (dTup (aV (dC (.int 0)) (aV (dC (.int 1)) aNil))) (aV (dTup (aV (dC (.int 0)) (aV (dC (.int 1)) aNil))) aNil))) (aV (dTup (aV (dC (.int 0)) (aV (dC (.int 1)) aNil))) aNil))))))
def s9 : M Fl := (sSetX 6 (xBin fAdd (oN 6) (oV (dFz (lLst (aV (dTold 4 2 cs_all (fun _ => (unN 4).set 1 (.v .none)) hd__law_error pst__law_error (dCall (D_write_tale) (aV (dC (.str "cut")) (aV (dC .none) (aV (dC .none) aNil))))) aNil))))))
def s10 : M Fl := (sSetX 6 (xBin fAdd (oN 6) (oV (dFz (lLst (aV (dTold 4 2 cs_all (fun _ => (unN 4).set 1 (.v .none)) hd__law_error pst__law_error (dCall (D_write_tale) (aV (dC (.str "end")) (aV (dVar 2) (aV (dC .none) aNil))))) aNil))))))
def s11 : M Fl := (sSetX 6 (xBin fAdd (oN 6) (oV (dFz (lLst (aV (dTold 4 2 cs_all (fun _ => (unN 4).set 1 (.v .none)) hd__law_error pst__law_error (dCall (D_write_tale) (aV (dC (.str "end")) (aV (dC (.int 2)) (aV (dC .none) aNil))))) aNil))))))
def s12 : M Fl := (sSetX 6 (xBin fAdd (oN 6) (oV (dFz (lLst (aV (dTold 4 2 cs_all (fun _ => (unN 4).set 1 (.v .none)) hd__law_error pst__law_error (dCall (D_read_tale) (aV (dC (.str "end")) (aV (dVar 2) (aV (dC .none) aNil))))) aNil))))))
def s13 : M Fl := (sSetX 6 (xBin fAdd (oN 6) (oV (dFz (lLst (aV (dTold 4 2 cs_all (fun _ => (unN 4).set 1 (.v .none)) hd__law_error pst__law_error (dCall (D_read_tale) (aV (dC (.str "end")) (aV (dC (.int 2)) (aV (dC .none) aNil))))) aNil))))))
def s14 : M Fl := (sSetX 6 (xBin fAdd (oN 6) (oV (dFz (lLst (aV (dTold 4 2 cs_all (fun _ => (unN 4).set 1 (.v .none)) hd__law_error pst__law_error (dCall (D_tale) (aV (dC (.str "cut")) (aV (dC .none) (aV (dC .none) aNil))))) aNil))))))
def s15 : M Fl := (sSetX 6 (xBin fAdd (oN 6) (oV (dFz (lLst (aV (dTold 4 2 cs_all (fun _ => (unN 4).set 1 (.v .none)) hd__law_error pst__law_error (dCall (D_tale) (aV (dC (.str "in")) (aV (dVar 4) (aV (dC .none) aNil))))) aNil))))))
def s16 : M Fl := (sSetX 6 (xBin fAdd (oN 6) (oV (dFz (lLst (aV (dTold 4 2 cs_all (fun _ => (unN 4).set 1 (.v .none)) hd__law_error pst__law_error (dCall (D_tale) (aV (dC (.str "in")) (aV (dVar 7) (aV (dC .none) aNil))))) aNil))))))
def s17 : M Fl := (sSetX 6 (xBin fAdd (oN 6) (oV (dFz (lLst (aV (dTold 4 2 cs_all (fun _ => (unN 4).set 1 (.v .none)) hd__law_error pst__law_error (dCall (D_tale) (aV (dC (.str "in")) (aV (dVar 7) (aV (dTup aNil) aNil))))) aNil))))))
def s18 : M Fl := (sSetX 6 (xBin fAdd (oN 6) (oV (dFz (lLst (aV (dTold 4 2 cs_all (fun _ => (unN 4).set 1 (.v .none)) hd__law_error pst__law_error (dCall (D_is_kept_true) (aV (dC (.str "in")) (aV (dVar 7) (aV (dTup aNil) aNil))))) aNil))))))
def s19 : M Fl := (sSetX 6 (xBin fAdd (oN 6) (oV (dFz (lLst (aV (dTold 4 2 cs_all (fun _ => (unN 4).set 1 (.v .none)) hd__law_error pst__law_error (dCall (D_write_keeper) (aV (dC (.str "end")) (aV (dC (.int 2)) (aV (dC .none) aNil))))) aNil))))))
def s20 : M Fl := (sSetX 6 (xBin fAdd (oN 6) (oV (dFz (lLst (aV (dTold 4 2 cs_all (fun _ => (unN 4).set 1 (.v .none)) hd__law_error pst__law_error (dCall (D_read_keeper) (aV (dC (.str "end")) (aV (dC (.int 2)) (aV (dC .none) aNil))))) aNil))))))
def s21 : M Fl := (sRet (dBin fEq (oN 6) (oV (dFz (lLst (aV (dC (.int 3)) (aV (dC (.int 2)) (aV (dC (.int 2)) (aV (dC (.int 3)) (aV (dC (.int 2)) (aV (dC (.int 1)) (aV (dC (.int 2)) (aV (dC (.int 4)) (aV (dC (.int 2)) (aV (dC (.int 7)) (aV (dC (.int 1)) (aV (dC (.int 3)) (aV (dC (.int 4)) (aV (dC (.int 9)) (aV (dC (.int 9)) (aV (dC (.int 5)) (aV (dC (.int 7)) aNil))))))))))))))))))))))
theorem slaw : D_law = fnOf 1 8 (sSeq s0 (sSeq s1 (sSeq s2 (sSeq s3 (sSeq s4 (sSeq s5 (sSeq s6 (sSeq s7 (sSeq s8 (sSeq s9 (sSeq s10 (sSeq s11 (sSeq s12 (sSeq s13 (sSeq s14 (sSeq s15 (sSeq s16 (sSeq s17 (sSeq s18 (sSeq s19 (sSeq s20 s21))))))))))))))))))))) := rfl
abbrev St (ns : List Int) (i h k : Int) (n q c : PyData) (s6 s7 : Sl) : List Sl := [.v (scr ns), .l (row ns i h k), .v n, .v fine, .v q, .v c, s6, s7]
section
variable {ns : List Int} {i h k : Int} {n q c : PyData} {xs : List PyData} {s7 s7_ : Sl}
theorem t5 (hc : c ∈ Cs) (hl : xs.length < 1000) : s5 (St ns i h k n q c (.l xs) s7) = .ok .nx (St ns i h k n q c (.l (xs ++ [.int 2])) s7) := one_step (told_call (c := "BadNumber") (r1 := St ns i h k n q c (.l xs) s7) [fine, c] rfl rfl (all_at f3 hc)) rfl rfl hl
theorem t6 (hq : q ∈ Qs) (hl : xs.length < 1000) : s6 (St ns i h k n q c (.l xs) s7) = .ok .nx (St ns i h k n q c (.l (xs ++ [.int 3])) s7) := one_step (told_call (c := "BadQuestion") (r1 := St ns i h k n q c (.l xs) s7) [q, .none] rfl rfl (all_at f4 hq)) rfl rfl hl
theorem t9  (hl : xs.length < 1000) : s9 (St ns i h k n q c (.l xs) (.v ends)) = .ok .nx (St ns i h k n q c (.l (xs ++ [.int 1])) (.v ends)) := one_step (told_call (c := "BadWorld") (r1 := St ns i h k n q c (.l xs) (.v ends)) [.str "cut", .none, .none] rfl rfl f6) rfl rfl hl
theorem t10 (hn : n ∈ Ns) (hl : xs.length < 1000) : s10 (St ns i h k n q c (.l xs) (.v ends)) = .ok .nx (St ns i h k n q c (.l (xs ++ [.int 2])) (.v ends)) := one_step (told_call (c := "BadNumber") (r1 := St ns i h k n q c (.l xs) (.v ends)) [.str "end", n, .none] rfl rfl (all_at f7 hn)) rfl rfl hl
theorem t11  (hl : xs.length < 1000) : s11 (St ns i h k n q c (.l xs) (.v ends)) = .ok .nx (St ns i h k n q c (.l (xs ++ [.int 4])) (.v ends)) := one_step (told_call (c := "BadEdits") (r1 := St ns i h k n q c (.l xs) (.v ends)) [.str "end", .int 2, .none] rfl rfl f8) rfl rfl hl
theorem t12 (hn : n ∈ Ns) (hl : xs.length < 1000) : s12 (St ns i h k n q c (.l xs) (.v ends)) = .ok .nx (St ns i h k n q c (.l (xs ++ [.int 2])) (.v ends)) := one_step (told_call (c := "BadNumber") (r1 := St ns i h k n q c (.l xs) (.v ends)) [.str "end", n, .none] rfl rfl (all_at f9 hn)) rfl rfl hl
theorem t13  (hl : xs.length < 1000) : s13 (St ns i h k n q c (.l xs) (.v ends)) = .ok .nx (St ns i h k n q c (.l (xs ++ [.int 7])) (.v ends)) := one_step (told_call (c := "BadString") (r1 := St ns i h k n q c (.l xs) (.v ends)) [.str "end", .int 2, .none] rfl rfl f10) rfl rfl hl
theorem t14  (hl : xs.length < 1000) : s14 (St ns i h k n q c (.l xs) (.v ends)) = .ok .nx (St ns i h k n q c (.l (xs ++ [.int 1])) (.v ends)) := one_step (told_call (c := "BadWorld") (r1 := St ns i h k n q c (.l xs) (.v ends)) [.str "cut", .none, .none] rfl rfl f11) rfl rfl hl
theorem t15 (hq : q ∈ Qs) (hl : xs.length < 1000) : s15 (St ns i h k n q c (.l xs) (.v ends)) = .ok .nx (St ns i h k n q c (.l (xs ++ [.int 3])) (.v ends)) := one_step (told_call (c := "BadQuestion") (r1 := St ns i h k n q c (.l xs) (.v ends)) [.str "in", q, .none] rfl rfl (all_at f12 hq)) rfl rfl hl
theorem t16  (hl : xs.length < 1000) : s16 (St ns i h k n q c (.l xs) (.v ends)) = .ok .nx (St ns i h k n q c (.l (xs ++ [.int 4])) (.v ends)) := one_step (told_call (c := "BadEdits") (r1 := St ns i h k n q c (.l xs) (.v ends)) [.str "in", ends, .none] rfl rfl f13) rfl rfl hl
theorem t17  (hl : xs.length < 1000) : s17 (St ns i h k n q c (.l xs) (.v ends)) = .ok .nx (St ns i h k n q c (.l (xs ++ [.int 9])) (.v ends)) := one_step (told_call (c := "NoKeeper") (r1 := St ns i h k n q c (.l xs) (.v ends)) [.str "in", ends, .tuple []] rfl rfl f14) rfl rfl hl
theorem t18  (hl : xs.length < 1000) : s18 (St ns i h k n q c (.l xs) (.v ends)) = .ok .nx (St ns i h k n q c (.l (xs ++ [.int 9])) (.v ends)) := one_step (told_call (c := "NoKeeper") (r1 := St ns i h k n q c (.l xs) (.v ends)) [.str "in", ends, .tuple []] rfl rfl f15) rfl rfl hl
theorem t19  (hl : xs.length < 1000) : s19 (St ns i h k n q c (.l xs) (.v ends)) = .ok .nx (St ns i h k n q c (.l (xs ++ [.int 5])) (.v ends)) := one_step (told_call (c := "BadKeeper") (r1 := St ns i h k n q c (.l xs) (.v ends)) [.str "end", .int 2, .none] rfl rfl f16) rfl rfl hl
theorem t20  (hl : xs.length < 1000) : s20 (St ns i h k n q c (.l xs) (.v ends)) = .ok .nx (St ns i h k n q c (.l (xs ++ [.int 7])) (.v ends)) := one_step (told_call (c := "BadString") (r1 := St ns i h k n q c (.l xs) (.v ends)) [.str "end", .int 2, .none] rfl rfl f17) rfl rfl hl
theorem t4 (hq : q ∈ Qs) (hc : c ∈ Cs) {s6 : Sl} (h6 : s6.isIo = false) : s4 (St ns i h k n q c s6 s7) = .ok .nx (St ns i h k n q c (.l [.int 3, .int 2]) s7) := by
  have a1 : told (dCall (D_arrangements) (aV (dVar 4) (aV (dVar 5) aNil))) (St ns i h k n q c s6 s7) = .ok (.int 3) (St ns i h k n q c s6 s7) := told_call (c := "BadQuestion") [q, c] rfl rfl (all_at (all_at f1 hq) hc)
  have a2 : told (dCall (D_possible) (aV (dVar 3) (aV (dVar 5) aNil))) (St ns i h k n q c s6 s7) = .ok (.int 2) (St ns i h k n q c s6 s7) := told_call (c := "BadNumber") [fine, c] rfl rfl (all_at f2 hc)
  exact two_step a1 a2 rfl h6
theorem t7 (h0 : 0 ≤ i) (hl : xs.length < 1000) : ∃ i' h' k', 0 ≤ i' ∧ K70.s7 (St ns i h k n q c (.l xs) s7_) = .ok .nx (St ns i' h' k' n q c (.l (xs ++ [.int 2])) s7_) := by
  obtain ⟨j, m, i', h', k', e, p, cc⟩ := call_pick (r := St ns i h k n q c (.l xs) s7_) (k := 1) (i := i) (h := h) (c := k) (ds := Ms) (de := (dFz (lLst (aV (dC .none) (aV (dNeg (dC (.int 1))) (aV (dC (.int 6)) (aV (dC (.bool true)) aNil))))))) rfl rfl (by decide) (by decide) h0
  have hm : m ∈ Ms := in_of e
  refine ⟨i', h', k', p, one_step (r1 := St ns i' h' k' n q c (.l xs) s7_) (told_call (c := "BadNumber") [fine, m] rfl ?_ (all_at f5 hm)) rfl rfl hl⟩
  exact aV_two rfl cc
theorem t8 {s6 : Sl} : s8 (St ns i h k n q c s6 .un) = .ok .nx (St ns i h k n q c s6 (.v ends)) := rfl
theorem t21 : ∃ r, s21 (St ns i h k n q c (.l [.int 3, .int 2, .int 2, .int 3, .int 2, .int 1, .int 2, .int 4, .int 2, .int 7, .int 1, .int 3, .int 4, .int 9, .int 9, .int 5, .int 7]) (.v ends)) = .ok (.rt (.bool true)) r := ⟨_, rfl⟩
end
theorem t0 {ns : List Int} : s0 [.v (scr ns), .un, .un, .un, .un, .un, .un, .un] = .ok .nx [.v (scr ns), .l (row ns 0 11210 0), .un, .un, .un, .un, .un, .un] := rfl
theorem t1 {ns : List Int} : ∃ i h k n, n ∈ Ns ∧ 0 ≤ i ∧ s1 [.v (scr ns), .l (row ns 0 11210 0), .un, .un, .un, .un, .un, .un] = .ok .nx [.v (scr ns), .l (row ns i h k), .v n, .v fine, .un, .un, .un, .un] := by
  obtain ⟨j1, n, i1, h1, k1, e1, p1, c1⟩ := call_pick (r := [.v (scr ns), .l (row ns 0 11210 0), .un, .un, .un, .un, .un, .un]) (k := 1) (i := 0) (h := 11210) (c := 0) (ds := Ns)
    (de := (dFz (lLst (aV (dC .none) (aV (dC (.int 0)) (aV (dC (.int 4)) (aV (dC (.bool true)) (aV (dC (.str "1")) aNil)))))))) rfl rfl (by decide) (by decide) (by decide)
  refine ⟨i1, h1, k1, n, in_of e1, p1, ?_⟩
  simp only [s1, sPar, axCons, xV, M.bind, Res.bind, c1, M.ret]
  rfl
theorem t2 {ns : List Int} {i h k : Int} {n : PyData} (h0 : 0 ≤ i) : ∃ i' h' k' q, q ∈ Qs ∧ 0 ≤ i' ∧ s2 [.v (scr ns), .l (row ns i h k), .v n, .v fine, .un, .un, .un, .un] = .ok .nx [.v (scr ns), .l (row ns i' h' k'), .v n, .v fine, .v q, .un, .un, .un] := by
  obtain ⟨j1, q, i1, h1, k1, e1, p1, c1⟩ := call_pick (r := [.v (scr ns), .l (row ns i h k), .v n, .v fine, .un, .un, .un, .un]) (k := 1) (i := i) (h := h) (c := k) (ds := Qs)
    (de := (dFz (lLst (aV (dC .none) (aV (dTup (aV (dC (.int 2)) aNil)) (aV (dTup (aV (dC (.int 0)) (aV (dTup aNil) (aV (dTup aNil) aNil)))) (aV (dTup (aV (dC (.int 2)) (aV (dTup (aV (dTup (aV (dC (.int 0)) aNil)) aNil)) (aV (dTup (aV (dC (.int 0)) aNil)) aNil)))) (aV (dTup (aV (dC (.int 2)) (aV (dTup (aV (dTup (aV (dC (.int 0)) (aV (dC (.int 0)) aNil))) aNil)) (aV (dTup (aV (dC (.int 4)) aNil)) aNil)))) (aV (dTup (aV (dC (.int 2)) (aV (dTup (aV (dTup (aV (dC (.int 0)) (aV (dC (.int 1)) aNil))) aNil)) (aV (dTup (aV (dC (.int 0)) aNil)) aNil)))) aNil))))))))) rfl rfl (by decide) (by decide) h0
  refine ⟨i1, h1, k1, q, in_of e1, p1, ?_⟩
  simp only [s2, sSetX, xV, M.bind, Res.bind, c1, M.ret]
  rfl
theorem t3 {ns : List Int} {i h k : Int} {n q : PyData} (h0 : 0 ≤ i) : ∃ i' h' k' c, c ∈ Cs ∧ 0 ≤ i' ∧ s3 [.v (scr ns), .l (row ns i h k), .v n, .v fine, .v q, .un, .un, .un] = .ok .nx [.v (scr ns), .l (row ns i' h' k'), .v n, .v fine, .v q, .v c, .un, .un] := by
  obtain ⟨j1, c, i1, h1, k1, e1, p1, c1⟩ := call_pick (r := [.v (scr ns), .l (row ns i h k), .v n, .v fine, .v q, .un, .un, .un]) (k := 1) (i := i) (h := h) (c := k) (ds := Cs)
    (de := (dFz (lLst (aV (dC .none) (aV (dTup aNil) (aV (dTup (aV (dC (.int 1)) aNil)) (aV (dTup (aV (dC (.int 1)) (aV (dC (.int 2)) (aV (dC (.int 3)) aNil)))) (aV (dTup (aV (dC (.int 1)) (aV (dC (.int 21)) aNil))) (aV (dTup (aV (dNeg (dC (.int 1))) (aV (dC (.int 0)) aNil))) (aV (dTup (aV (dC (.bool true)) (aV (dC (.int 0)) aNil))) (aV (dFz (lLst (aV (dC (.int 1)) (aV (dC (.int 1)) aNil)))) aNil))))))))))) rfl rfl (by decide) (by decide) h0
  refine ⟨i1, h1, k1, c, in_of e1, p1, ?_⟩
  simp only [s3, sSetX, xV, M.bind, Res.bind, c1, M.ret]
  rfl
theorem plain (ns : List Int) : ∃ r, D_law [.v (scr ns)] = .ok (.bool true) r := by
  obtain ⟨i1, h1, k1, n, hn, p1, c1⟩ := t1 (ns := ns)
  obtain ⟨i2, h2, k2, q, hq, p2, c2⟩ := t2 (ns := ns) (h := h1) (k := k1) (n := n) p1
  obtain ⟨i3, h3, k3, c, hc, p3, c3⟩ := t3 (ns := ns) (h := h2) (k := k2) (n := n) (q := q) p2
  obtain ⟨i4, h4, k4, p4, c4⟩ := t7 (ns := ns) (h := h3) (k := k3) (n := n) (q := q) (c := c) (xs := [.int 3, .int 2] ++ [.int 2] ++ [.int 3]) (s7_ := .un) p3 (by decide)
  obtain ⟨r, e⟩ := t21 (ns := ns) (i := i4) (h := h4) (k := k4) (n := n) (q := q) (c := c)
  refine ⟨r, ?_⟩
  rw [slaw]
  refine fnOf_rt rfl ?_
  show sSeq s0 _ [.v (scr ns), .un, .un, .un, .un, .un, .un, .un] = _
  rw [sSeq_nx t0, sSeq_nx c1, sSeq_nx c2, sSeq_nx c3, sSeq_nx (t4 hq hc rfl), sSeq_nx (t5 hc (by decide)), sSeq_nx (t6 hq (by decide)), sSeq_nx c4, sSeq_nx t8, sSeq_nx (t9 (by decide)), sSeq_nx (t10 hn (by decide)), sSeq_nx (t11 (by decide)), sSeq_nx (t12 hn (by decide)),
    sSeq_nx (t13 (by decide)), sSeq_nx (t14 (by decide)), sSeq_nx (t15 hq (by decide)), sSeq_nx (t16 (by decide)), sSeq_nx (t17 (by decide)), sSeq_nx (t18 (by decide)), sSeq_nx (t19 (by decide)), sSeq_nx (t20 (by decide))]
  exact e
end K70

end
section
namespace K70
theorem fin : PySem.Challenge.rw_toldwhat_k70_counts_and_tales_refused.Holds := K70.holds fun ns _ _ => plain ns
end K70

end
open PySem PySem.W PyProof.Rows
theorem PySem.Challenge.cw_toldwhat_k70_counts_and_tales_refused_holds : PySem.Challenge.rw_toldwhat_k70_counts_and_tales_refused.Holds := by
  exact K70.fin
