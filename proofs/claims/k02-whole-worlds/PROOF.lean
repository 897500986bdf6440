import PyProof.Rows.All
import Wide.All
import OpenK.AllK
import Wide.FinOn
import HandS.ForMost
import HandS.Exc
import HandS.TryOnly
import HandS.ExcOwn
import HandS.WordsExc
import HandS.Deep
import HandS.IsInst
import HandS.Defaults
import HandS.TupMul
import HandS.TupAny
import HandS.Walk
import HandS.Zip
import HandS.AnyAll
import HandS.Lambda
import HandS.CallSlots
import HandS.Style
import HandS.Text
import HandS.Conv
import HandS.SetFor
import HandS.More
import HandS.RaiseMore
import HandS.GenList
import PyProof.GenCompD
import PyProof.ConsumeS
import HandS.HeadWalk
import HandS.HeadHook4
import HandS.EndTab
import HandS.Head0
import HandS.Head1
import HandS.Head2
import HandS.HeadEnd
import KE.SortCalls
import HandS.SortOrd
import HandS.SortRule
import KE.GoesEnum
import KE.GoesZip
import KE.KDictZip
import HandS.NestedK
import HandS.ExcInit
import HandS.ExcField
import KE.KExcIs
import HandS.Rev
import HandS.Small
import PySem.Challenge.RW_toldwhat_k02_whole_worlds
set_option Elab.async false
set_option linter.all false
set_option maxRecDepth 100000
set_option maxHeartbeats 4000000
section
/-! A layer of plain values over the hand layer: slots hold values (PyData, deep) or lists that they own. -/
namespace TW
open PySem PySem.Spec PyProof.Rows L2

/-! ### values -/
/-- the key of a dict's item -/
def keyD : PyData → Option Key
  | .int i => some (.inl i)
  | .str x => some (.inr x)
  | _ => none
/-- a list that the program got and leaves as it is: a list's items, told by a name of its own -/
def scr (ns : List Int) : PyData := .dict [(.none, .list (ns.map PyData.int))]
mutual
/-- v stands for the value d; what is asked of the heap is asked of G, the part that no one changes -/
def Rv (K : PySem.W.Frag) (G : Hp) : PyData → V → Prop
  | .none, v => v = .non
  | .bool b, v => v = .bl b
  | .int i, v => v = .int i
  | .str x, v => v = .str x
  | .list ds, v => ∃ a xs, v = .ref a ∧ G a = some (HO.lst xs) ∧ RvA K G ds xs
  | .tuple ds, v => ∃ a xs, v = .ref a ∧ SqT K G a xs ∧ RvA K G ds xs
  | .dict kvs, v => (∃ a ns, .dict kvs = scr ns ∧ v = .ref a ∧ SqL K G a (ns.map V.int)) ∨ ∃ a ks, v = .ref a ∧ G a = some (HO.dK ks) ∧ RvD K G kvs ks
def RvA (K : PySem.W.Frag) (G : Hp) : List PyData → List V → Prop
  | [], xs => xs = []
  | d :: ds, xs => ∃ x r, xs = x :: r ∧ Rv K G d x ∧ RvA K G ds r
def RvD (K : PySem.W.Frag) (G : Hp) : List (PyData × PyData) → List (Key × V) → Prop
  | [], ks => ks = []
  | p :: kvs, ks => ∃ x r, ks = x :: r ∧ RvP K G p x ∧ RvD K G kvs r
def RvP (K : PySem.W.Frag) (G : Hp) : PyData × PyData → Key × V → Prop
  | (k, d), x => keyD k = some x.1 ∧ Rv K G d x.2
end
section
variable {K : PySem.W.Frag} {G G' H : Hp}
theorem same_l {a : Addr} {xs : List V} (e : Same G G') (h : G a = some (HO.lst xs)) : SqL K G' a xs := .inl (.inl (e _ _ h))
theorem same_t {a : Addr} {xs : List V} (e : Same G G') (h : SqT K G a xs) : SqT K G' a xs := by
  rcases h with (h | ⟨o, h⟩) | h
  · exact .inl (.inl (e _ _ h))
  · exact .inl (.inr ⟨o, e _ _ h⟩)
  · exact .inr h
mutual
theorem Rv.mono (e : Same G G') : ∀ (d : PyData) (v : V), Rv K G d v → Rv K G' d v
  | .none, _, h => h
  | .bool _, _, h => h
  | .int _, _, h => h
  | .str _, _, h => h
  | .list ds, v, ⟨a, xs, h1, h2, h3⟩ => ⟨a, xs, h1, e _ _ h2, RvA.mono e ds xs h3⟩
  | .tuple ds, v, ⟨a, xs, h1, h2, h3⟩ => ⟨a, xs, h1, same_t e h2, RvA.mono e ds xs h3⟩
  | .dict kvs, v, h => h.elim (fun ⟨a, ns, h1, h2, h3⟩ => .inl ⟨a, ns, h1, h2, e.seq h3⟩) fun ⟨a, ks, h1, h2, h3⟩ => .inr ⟨a, ks, h1, e _ _ h2, RvD.mono e kvs ks h3⟩
theorem RvA.mono (e : Same G G') : ∀ (ds : List PyData) (xs : List V), RvA K G ds xs → RvA K G' ds xs
  | [], _, h => h
  | d :: ds, _, ⟨x, r, h1, h2, h3⟩ => ⟨x, r, h1, Rv.mono e d x h2, RvA.mono e ds r h3⟩
theorem RvD.mono (e : Same G G') : ∀ (ds : List (PyData × PyData)) (xs : List (Key × V)), RvD K G ds xs → RvD K G' ds xs
  | [], _, h => h
  | p :: ds, _, ⟨x, r, h1, h2, h3⟩ => ⟨x, r, h1, RvP.mono e p x h2, RvD.mono e ds r h3⟩
theorem RvP.mono (e : Same G G') : ∀ (p : PyData × PyData) (x : Key × V), RvP K G p x → RvP K G' p x
  | (k, d), x, h => ⟨h.1, Rv.mono e d x.2 h.2⟩
end
mutual
theorem Rv.dp (e : Same G H) : ∀ (d : PyData) (v : V), d.canLay0 = true → Rv K G d v → Dp K H v d
  | .none, _, _, h => by cases h; exact .non
  | .bool _, _, _, h => by cases h; exact .bl _
  | .int _, _, _, h => by cases h; exact .int _
  | .str _, _, _, h => by cases h; exact .str _
  | .list ds, v, c, ⟨a, xs, h1, h2, h3⟩ => by subst h1; exact .lst (same_l e h2) (RvA.dp e ds xs (by simpa [PyData.canLay0] using c) h3)
  | .tuple ds, v, c, ⟨a, xs, h1, h2, h3⟩ => by subst h1; exact .tup (same_t e h2) (RvA.dp e ds xs (by simpa [PyData.canLay0] using c) h3)
  | .dict _, _, c, _ => by simp [PyData.canLay0] at c
theorem RvA.dp (e : Same G H) : ∀ (ds : List PyData) (xs : List V), PyData.canLayAll0 ds = true → RvA K G ds xs → DpAll K H xs ds
  | [], _, _, h => by cases h; exact .nil
  | d :: ds, _, c, ⟨x, r, h1, h2, h3⟩ => by
    subst h1
    have c : (d.canLay0 && PyData.canLayAll0 ds) = true := by simpa [PyData.canLayAll0] using c
    rw [Bool.and_eq_true] at c
    exact .cons (Rv.dp e d x c.1 h2) (RvA.dp e ds r c.2 h3)
end
theorem RvA.len : ∀ {ds : List PyData} {xs : List V}, RvA K G ds xs → xs.length = ds.length
  | [], _, h => by cases h; rfl
  | d :: ds, _, ⟨x, r, h1, _, h3⟩ => by subst h1; simp [RvA.len h3]
theorem RvA.at : ∀ {ds : List PyData} {xs : List V} {i : Nat} {d : PyData}, RvA K G ds xs → ds[i]? = some d → ∃ x, xs[i]? = some x ∧ Rv K G d x
  | [], _, _, _, _, h => by simp at h
  | d :: ds, _, 0, _, ⟨x, r, h1, h2, h3⟩, h => by subst h1; simp at h; subst h; exact ⟨x, rfl, h2⟩
  | d :: ds, _, i + 1, _, ⟨x, r, h1, h2, h3⟩, h => by subst h1; simpa using RvA.at (i := i) h3 (by simpa using h)
theorem RvA.at' : ∀ {ds : List PyData} {xs : List V} {i : Nat} {x : V}, RvA K G ds xs → xs[i]? = some x → ∃ d, ds[i]? = some d ∧ Rv K G d x
  | [], _, _, _, h, e => by cases h; simp at e
  | d :: ds, _, 0, _, ⟨x, r, h1, h2, h3⟩, h => by subst h1; simp at h; subst h; exact ⟨d, rfl, h2⟩
  | d :: ds, _, i + 1, _, ⟨x, r, h1, h2, h3⟩, h => by subst h1; simpa using RvA.at' (i := i) h3 (by simpa using h)
theorem RvA.app : ∀ {ds es : List PyData} {xs ys : List V}, RvA K G ds xs → RvA K G es ys → RvA K G (ds ++ es) (xs ++ ys)
  | [], _, _, _, h, q => by cases h; exact q
  | d :: ds, _, _, _, ⟨x, r, h1, h2, h3⟩, q => by subst h1; exact ⟨x, r ++ _, rfl, h2, RvA.app h3 q⟩
theorem RvA.one {d : PyData} {x : V} (h : Rv K G d x) : RvA K G [d] [x] := ⟨x, [], rfl, h, rfl⟩
theorem RvA.drop : ∀ (n : Nat) {ds : List PyData} {xs : List V}, RvA K G ds xs → RvA K G (ds.drop n) (xs.drop n)
  | 0, _, _, h => h
  | n + 1, [], _, h => by cases h; simp; exact rfl
  | n + 1, d :: ds, _, ⟨x, r, h1, _, h3⟩ => by subst h1; exact RvA.drop n h3
theorem RvA.take : ∀ (n : Nat) {ds : List PyData} {xs : List V}, RvA K G ds xs → RvA K G (ds.take n) (xs.take n)
  | 0, _, _, _ => rfl
  | n + 1, [], _, h => by cases h; exact rfl
  | n + 1, d :: ds, _, ⟨x, r, h1, h2, h3⟩ => by subst h1; exact ⟨x, r.take n, rfl, h2, RvA.take n h3⟩
theorem RvA.set : ∀ (n : Nat) {ds : List PyData} {xs : List V} {d : PyData} {x : V}, RvA K G ds xs → Rv K G d x → RvA K G (ds.set n d) (xs.set n x)
  | _, [], _, _, _, h, _ => by cases h; exact rfl
  | 0, d :: ds, _, _, _, ⟨x, r, h1, _, h3⟩, q => by subst h1; exact ⟨_, r, rfl, q, h3⟩
  | n + 1, d :: ds, _, _, _, ⟨x, r, h1, h2, h3⟩, q => by subst h1; exact ⟨x, _, rfl, h2, RvA.set n h3 q⟩
theorem RvA.ints : ∀ {ns : List Int}, RvA K G (ns.map PyData.int) (ns.map V.int)
  | [] => rfl
  | n :: ns => ⟨_, _, rfl, rfl, RvA.ints⟩
end

/-! ### slots -/
/-- a name of a def: nothing is known; a value; a list that no one else holds; a list that the caller holds, to be given back -/
inductive Sl where
  | un | v (d : PyData) | l (ds : List PyData) | io (ds : List PyData)
def Sl.own : Sl → Option (List PyData)
  | .l ds => some ds
  | .io ds => some ds
  | _ => none
/-- an exception: its class's name, its fields -/
structure Ex where
  c : Str
  fs : List (Str × PyData)
inductive Res (α : Type) where
  | ok (a : α) (r : List Sl)
  | ex (e : Ex) (r : List Sl)
  | st
abbrev M (α : Type) := List Sl → Res α
def Res.bind {α β : Type} : Res α → (α → M β) → Res β
  | .ok a r, k => k a r
  | .ex e r, _ => .ex e r
  | .st, _ => .st
def M.bind {α β : Type} (d : M α) (k : α → M β) : M β := fun r => (d r).bind k
def M.ret {α : Type} (a : α) : M α := fun r => .ok a r
def M.st {α : Type} : M α := fun _ => .st
def M.opt {α : Type} : Option α → M α
  | some a => .ret a
  | none => .st

/-- a def's table of code objects: of generators, or of lambdas that bear that name -/
structure TbK where
  P : Addr
  q : Option Str
def TabQ (H : Hp) (z : TbK) : Prop := ∃ ps : Array Value, H z.P = some (.tbl ps) ∧ TriplesOk ps.toList ∧ ∀ q, z.q = some q → ∀ (pos : Pos) (cv : Value), codeAmong pos ps.toList = some cv → ∃ c, cv = .ref c ∧ H c = some (LamX.CodeO c q)
theorem TabQ.keep {H H' : Hp} {z : TbK} (t : TabQ H z) (k1 : ∀ ps, H z.P = some (.tbl ps) → H' z.P = some (.tbl ps)) (k2 : ∀ c q, H c = some (LamX.CodeO c q) → H' c = some (LamX.CodeO c q)) : TabQ H' z := by
  obtain ⟨ps, h1, h2, h3⟩ := t
  refine ⟨ps, k1 _ h1, h2, fun q hq pos cv hc => ?_⟩
  obtain ⟨c, e1, e2⟩ := h3 q hq pos cv hc
  exact ⟨c, e1, k2 _ _ e2⟩
theorem TabQ.upd {H : Hp} {D : Addr} {o u : HO} {z : TbK} (t : TabQ H z) (h : H D = some u) (h1 : ∀ ps, u ≠ .tbl ps) (h2 : ∀ q, u ≠ LamX.CodeO D q) : TabQ (upd H D o) z :=
  t.keep (fun ps e => by rw [upd_ne fun x => h1 ps (by rw [x, h] at e; exact Option.some.inj e)]; exact e) fun c q e => by
    rw [upd_ne fun x => h2 q (by rw [x, h] at e; exact Option.some.inj e)]
    exact e
theorem codeO_lst {c : Addr} {q : Str} {xs : List V} : HO.lst xs ≠ LamX.CodeO c q := fun z => by unfold LamX.CodeO at z; cases z
theorem codeO_dK {c : Addr} {q : Str} {xs : List (Key × V)} : HO.dK xs ≠ LamX.CodeO c q := fun z => by unfold LamX.CodeO at z; cases z
theorem TabQ.g {H : Hp} {z : TbK} (t : TabQ H z) : GxR.TabG H z.P := let ⟨ps, a, b, _⟩ := t; ⟨ps, a, b⟩
/-- the state as plain values: B the names that are given back, F what the callers hold, G0 the values' part at the entry, G now -/
structure SR (K : PySem.W.Frag) (TG : List TbK) (B : List (Nat × Addr)) (F G0 G H : Hp) (r : List Sl) (s : L2.St) : Prop where
  len : r.length = s.length
  gh : Same G H
  fh : Same F H
  g0 : Same G0 G
  fg : ∀ b u, G b = some u → F b = none ∨ G0 b = some u
  gt : ∀ b ps, G b ≠ some (.tbl ps)
  ft : ∀ b ps, F b ≠ some (.tbl ps)
  tb : ∀ z ∈ TG, TabQ H z
  vals : ∀ (i : Nat) (d : PyData), r[i]? = some (Sl.v d) → ∃ v, s[i]? = some (some v) ∧ Rv K G d v
  owns : ∀ (i : Nat) (ds : List PyData), r[i]?.bind Sl.own = some ds → ∃ a xs, s[i]? = some (some (V.ref a)) ∧ H a = some (HO.lst xs) ∧ RvA K G ds xs ∧ G a = none ∧ F a = none
  sep : ∀ (i j : Nat) (a : Addr) (ds es : List PyData), i ≠ j → r[i]?.bind Sl.own = some ds → r[j]?.bind Sl.own = some es → s[i]? = some (some (V.ref a)) → s[j]? ≠ some (some (V.ref a))
  ios : ∀ p ∈ B, (∃ ds, r[p.1]? = some (Sl.io ds)) ∧ s[p.1]? = some (some (V.ref p.2))

/-- the class and the own dict of such an exception -/
def ExR (K : PySem.W.Frag) (G : Hp) (e : Ex) (c : Value) (dx : Option Addr) : Prop :=
  c = .ref (match PySem.W.nsIn K mainGlobals e.c with | some (some (.ref a)) => a | _ => 0) ∧
    (match e.fs with
      | [] => True
      | fs => ∃ d vs, dx = some d ∧ G d = some (.xd vs) ∧ vs.map (·.1) = fs.map (·.1) ∧ RvA K G (fs.map (·.2)) (vs.map (·.2)))

/-- a relation of what a denotation gives to what the layer gives -/
abbrev RL (α β : Type) := Hp → α → β → Prop
section
variable (K : PySem.W.Frag) (TG : List TbK) (W : WX)
def post {α β : Type} (R : RL α β) (B : List (Nat × Addr)) (F G0 G : Hp) (s : L2.St) (Q : β → Hp → Prop) : Res α → Prop
  | .ok a r => ∀ G' H' b, Same G G' → SR K TG B F G0 G' H' r s → R G' a b → Q b H'
  | .ex e r => ∀ G' H' c dx, Same G G' → SR K TG B F G0 G' H' r s → ExR K G' e c dx → W c dx s H'
  | .st => False
def rd {α β : Type} (R : RL α β) (d : M α) (s : L2.St) (H : Hp) (Q : β → Hp → Prop) : Prop :=
  ∃ B F G0 G r, SR K TG B F G0 G H r s ∧ post K TG W R B F G0 G s Q (d r)
end
def RE (K : PySem.W.Frag) : RL PyData V := fun G d v => Rv K G d v
def RB : RL Bool Bool := fun _ a b => a = b
/-- e denotes d -/
def DE (X : Cx) (TG : List TbK) (W : WX) (e : Expr) (d : M PyData) : Prop := PE X e (rd X.K TG W (RE X.K) d)
def DT (X : Cx) (TG : List TbK) (W : WX) (e : Expr) (d : M Bool) : Prop := PT X e (rd X.K TG W RB d)
section
variable {K : PySem.W.Frag} {TG : List TbK} {W : WX} {B : List (Nat × Addr)} {F G0 G G1 : Hp} {s : L2.St} {H : Hp}
theorem post_mono {α β : Type} {R : RL α β} {Q : β → Hp → Prop} (e : Same G G1) : ∀ (x : Res α), post K TG W R B F G0 G s Q x → post K TG W R B F G0 G1 s Q x
  | .ok a r, h => fun G' H' b e' => h G' H' b (e.trans e')
  | .ex x r, h => fun G' H' c dx e' => h G' H' c dx (e.trans e')
  | .st, h => h
theorem post_imp {α β : Type} {R : RL α β} {Q Q' : β → Hp → Prop} (q : ∀ b H, Q b H → Q' b H) : ∀ (x : Res α), post K TG W R B F G0 G s Q x → post K TG W R B F G0 G s Q' x
  | .ok a r, h => fun G' H' b e' i z => q _ _ (h G' H' b e' i z)
  | .ex x r, h => h
  | .st, h => h
/-- two in a row -/
theorem post_bind {α β γ δ : Type} {R1 : RL α β} {R2 : RL γ δ} {Q : δ → Hp → Prop} {k : α → M γ} : ∀ (x : Res α), post K TG W R2 B F G0 G s Q (x.bind k) →
    post K TG W R1 B F G0 G s (fun b H1 => ∃ G1 r1 a, Same G G1 ∧ SR K TG B F G0 G1 H1 r1 s ∧ R1 G1 a b ∧ post K TG W R2 B F G0 G1 s Q (k a r1)) x
  | .ok a r, h => fun G' H' b e i z => ⟨G', r, a, e, i, z, post_mono e _ h⟩
  | .ex x r, h => h
  | .st, h => h
theorem rd_bind {α β γ δ : Type} {R1 : RL α β} {R2 : RL γ δ} {Q : δ → Hp → Prop} {d : M α} {k : α → M γ} (h : rd K TG W R2 (d.bind k) s H Q) :
    rd K TG W R1 d s H (fun b H1 => ∃ B F G0 G1 r1 a, SR K TG B F G0 G1 H1 r1 s ∧ R1 G1 a b ∧ post K TG W R2 B F G0 G1 s Q (k a r1)) := by
  obtain ⟨B, F, G0, G, r, i, p⟩ := h
  exact ⟨B, F, G0, G, r, i, post_imp (fun b H1 ⟨G1, r1, a, _, x, y, z⟩ => ⟨B, F, G0, G1, r1, a, x, y, z⟩) _ (post_bind _ p)⟩
end
theorem PE_imp {X : Cx} {e : Expr} {t t' : TE} (h : PE X e t) (w : ∀ s H Q, t' s H Q → t s H Q) : PE X e t' := ⟨fun pins s σ H Q I q => h.run pins s σ H Q I (w _ _ _ q)⟩
theorem PT_imp {X : Cx} {e : Expr} {t t' : TT} (h : PT X e t) (w : ∀ s H Q, t' s H Q → t s H Q) : PT X e t' := ⟨fun pins s σ H Q I q => h.run pins s σ H Q I (w _ _ _ q)⟩
theorem PA_imp {X : Cx} {e : List Expr} {t t' : TA} (h : PA X e t) (w : ∀ s H Q, t' s H Q → t s H Q) : PA X e t' := ⟨fun pos pins s σ H Q I q => h.run pos pins s σ H Q I (w _ _ _ q)⟩
theorem PS_imp {X : Cx} {e : Stmt} {t t' : TS} (h : PS X e t) (w : ∀ D s H, t' D s H → t D s H) : PS X e t' := ⟨fun pins s σ H D I q => h.run pins s σ H D I (w _ _ _ q)⟩
theorem PSs_imp {X : Cx} {e : List Stmt} {t t' : TS} (h : PSs X e t) (w : ∀ D s H, t' D s H → t D s H) : PSs X e t' := ⟨fun pins s σ H D I q => h.run pins s σ H D I (w _ _ _ q)⟩

/-! ### the heap grows -/
/-- new objects alone, put into the values' part -/
structure Grow (G H G' H' : Hp) : Prop where
  g : Same G G'
  h : Same H H'
  gh : Same G' H'
  old : ∀ b u, G' b = some u → G b = some u ∨ H b = none
  gt : ∀ b ps, G' b = some (.tbl ps) → G b = some (.tbl ps)
theorem Grow.refl {G H : Hp} (e : Same G H) : Grow G H G H := ⟨.refl _, .refl _, e, fun _ _ h => .inl h, fun _ _ h => h⟩
theorem Grow.trans {G H G1 H1 G2 H2 : Hp} (a : Grow G H G1 H1) (b : Grow G1 H1 G2 H2) : Grow G H G2 H2 :=
  ⟨a.g.trans b.g, a.h.trans b.h, b.gh, fun c u h => (b.old c u h).elim (fun h => a.old c u h) (fun h => .inr (a.h.free h)), fun c ps h => a.gt c ps (b.gt c ps h)⟩
theorem same_new {H : Hp} {p : Addr} {o : HO} (h : H p = none) : Same H (upd H p o) := fun b x e => by
  rw [upd_ne (ne_of_none e h)]
  exact e
theorem none_sub {G H : Hp} (e : Same G H) {p : Addr} (h : H p = none) : G p = none := e.free h
theorem Grow.new {G H : Hp} (e : Same G H) {p : Addr} (hp : H p = none) (o : HO) (ho : ∀ ps, o ≠ .tbl ps) : Grow G H (upd G p o) (upd H p o) := by
  have gp := none_sub e hp
  refine ⟨same_new gp, same_new hp, fun b u q => ?_, fun b u q => ?_, fun b ps q => ?_⟩
  · by_cases z : b = p
    · subst z; rw [upd_same] at q ⊢; exact q
    · rw [upd_ne z] at q ⊢; exact e _ _ q
  · by_cases z : b = p
    · subst z; exact .inr hp
    · rw [upd_ne z] at q; exact .inl q
  · by_cases z : b = p
    · subst z; rw [upd_same] at q; cases q; exact absurd rfl (ho ps)
    · rw [upd_ne z] at q; exact q
theorem tab_same {H H' : Hp} (e : Same H H') {z : TbK} (h : TabQ H z) : TabQ H' z := h.keep (fun _ q => e _ _ q) fun _ _ q => e _ _ q
theorem SR.grow {K : PySem.W.Frag} {TG : List TbK} {B : List (Nat × Addr)} {F G0 G H G' H' : Hp} {r : List Sl} {s : L2.St} (i : SR K TG B F G0 G H r s) (g : Grow G H G' H') : SR K TG B F G0 G' H' r s where
  len := i.len
  gh := g.gh
  fh := i.fh.trans g.h
  g0 := i.g0.trans g.g
  fg := fun b u h => by
    rcases g.old b u h with h | h
    · exact i.fg b u h
    · exact .inl (none_sub i.fh h)
  gt := fun b ps h => i.gt b ps (g.gt b ps h)
  ft := i.ft
  tb := fun P hP => tab_same g.h (i.tb P hP)
  vals := fun j d h => let ⟨v, a, b⟩ := i.vals j d h; ⟨v, a, Rv.mono g.g _ _ b⟩
  owns := fun j ds h => by
    obtain ⟨a, xs, h1, h2, h3, h4, h5⟩ := i.owns j ds h
    refine ⟨a, xs, h1, g.h _ _ h2, RvA.mono g.g _ _ h3, ?_, h5⟩
    cases q : G' a with
    | none => rfl
    | some u =>
      rcases g.old a u q with z | z
      · rw [h4] at z; cases z
      · rw [h2] at z; cases z
  sep := i.sep
  ios := i.ios

/-! ### names and constants -/
def dC (d : PyData) : M PyData := .ret d
def dVar (i : Nat) : M PyData := fun r => match r[i]? with
  | some (.v d) => .ok d r
  | some (.l ds) => .ok (.list ds) (r.set i (.v (.list ds)))
  | _ => .st
section
variable {K : PySem.W.Frag} {TG : List TbK} {B : List (Nat × Addr)} {F G0 G H : Hp} {r : List Sl} {s : L2.St}
theorem own_v {r : List Sl} {i j : Nat} {d : PyData} {ds : List PyData} (h : (r.set i (.v d))[j]?.bind Sl.own = some ds) : i ≠ j ∧ r[j]?.bind Sl.own = some ds := by
  by_cases e : i = j
  · subst e
    rw [List.getElem?_set_self'] at h
    cases q : r[i]? with
    | none => rw [q] at h; simp at h
    | some x => rw [q] at h; simp [Sl.own] at h
  · rw [List.getElem?_set_ne e] at h
    exact ⟨e, h⟩
/-- a list is changed no more -/
theorem SR.freeze (i : SR K TG B F G0 G H r s) {j : Nat} {ds : List PyData} (h : r[j]? = some (.l ds)) : ∃ a xs, s[j]? = some (some (V.ref a)) ∧ Same G (upd G a (.lst xs)) ∧ Rv K (upd G a (.lst xs)) (.list ds) (.ref a) ∧
    SR K TG B F G0 (upd G a (.lst xs)) H (r.set j (.v (.list ds))) s := by
  obtain ⟨a, xs, h1, h2, h3, h4, h5⟩ := i.owns j ds (by rw [h]; rfl)
  have sg : Same G (upd G a (.lst xs)) := same_new h4
  have rv : Rv K (upd G a (.lst xs)) (.list ds) (.ref a) := ⟨a, xs, rfl, upd_same, RvA.mono sg _ _ h3⟩
  have gh : Same (upd G a (.lst xs)) H := fun b u q => by
    by_cases z : b = a
    · subst z; rw [upd_same] at q; cases q; exact h2
    · rw [upd_ne z] at q; exact i.gh _ _ q
  refine ⟨a, xs, h1, sg, rv, ?_⟩
  refine ⟨by rw [List.length_set]; exact i.len, gh, i.fh, i.g0.trans sg, fun b u q => ?_, fun b ps q => ?_, i.ft, i.tb, fun k d q => ?_, fun k es q => ?_, fun k l b es es' n q1 q2 => i.sep k l b es es' n (own_v q1).2 (own_v q2).2, fun p hp => ?_⟩
  · by_cases z : b = a
    · subst z; exact .inl h5
    · rw [upd_ne z] at q; exact i.fg b u q
  · by_cases z : b = a
    · subst z; rw [upd_same] at q; cases q
    · rw [upd_ne z] at q; exact i.gt b ps q
  · by_cases e : j = k
    · subst e
      have hj : j < r.length := (List.getElem?_eq_some_iff.mp h).1
      rw [List.getElem?_set_self hj] at q
      cases q
      exact ⟨_, h1, rv⟩
    · rw [List.getElem?_set_ne e] at q
      obtain ⟨v, a1, a2⟩ := i.vals k d q
      exact ⟨v, a1, Rv.mono sg _ _ a2⟩
  · obtain ⟨n, q⟩ := own_v q
    obtain ⟨a', xs', k1, k2, k3, k4, k5⟩ := i.owns k es q
    refine ⟨a', xs', k1, k2, RvA.mono sg _ _ k3, ?_, k5⟩
    rw [upd_ne fun e => i.sep j k a ds es n (by rw [h]; rfl) q h1 (by rw [← e]; exact k1)]
    exact k4
  · obtain ⟨⟨es, e1⟩, e2⟩ := i.ios p hp
    refine ⟨⟨es, ?_⟩, e2⟩
    by_cases e : j = p.1
    · rw [← e, h] at e1; cases e1
    · rw [List.getElem?_set_ne e]; exact e1
end
section
variable {X : Cx} {TG : List TbK} {W : WX}
theorem de_var {i : Nat} {x : Str} {pos : Pos} (h : PE X (.Name x pos) (tVar i)) : DE X TG W (.Name x pos) (dVar i) := by
  refine PE_imp h fun s H Q hq => ?_
  obtain ⟨B, F, G0, G, r, ir, p⟩ := hq
  unfold dVar at p
  split at p
  · rename_i d e
    obtain ⟨v, h1, h2⟩ := ir.vals i d e
    exact ⟨v, h1, p G H v (.refl _) ir h2⟩
  · rename_i ds e
    obtain ⟨a, xs, h1, h2, h3, h4⟩ := ir.freeze e
    exact ⟨_, h1, p _ H _ h2 h4 h3⟩
  · exact p.elim
theorem rd_ret {α β : Type} {K : PySem.W.Frag} {R : RL α β} {a : α} {b : β} {s : L2.St} {H : Hp} {Q : β → Hp → Prop} (h : rd K TG W R (M.ret a) s H Q) (hr : ∀ G, R G a b) : Q b H := by
  obtain ⟨B, F, G0, G, r, i, p⟩ := h
  exact p G H b (.refl _) i (hr G)
theorem de_int {i : Int} {j : Nat} {pos : Pos} : DE X TG W (.Constant (.int i) j pos) (dC (.int i)) := PE_imp pe_int fun s H Q h => rd_ret (b := V.int i) h fun _ => rfl
theorem de_bl {b : Bool} {j : Nat} {pos : Pos} : DE X TG W (.Constant (.bool b) j pos) (dC (.bool b)) := PE_imp pe_bl fun s H Q h => rd_ret (b := V.bl b) h fun _ => rfl
theorem de_non {j : Nat} {pos : Pos} : DE X TG W (.Constant .none j pos) (dC .none) := PE_imp pe_non fun s H Q h => rd_ret (b := V.non) h fun _ => rfl
theorem de_str {x : Str} {j : Nat} {pos : Pos} : DE X TG W (.Constant (.str x) j pos) (dC (.str x)) := PE_imp pe_str fun s H Q h => rd_ret (b := V.str x) h fun _ => rfl
/-- a constant of the module -/
theorem de_glob {x : Str} {v : V} {u : Value} {d : PyData} {pos : Pos} (hg : Gl X x) (hm : X.mg x = some u) (r : RelV v u) (hv : Rv X.K (fun _ => none) d v) (hd : (x == ("__debug__" : Str)) = false := by decide) : DE X TG W (.Name x pos) (dC d) :=
  PE_imp (pe_glob hg hm r hd) fun s H Q h => rd_ret (b := v) h fun G => Rv.mono (fun _ _ z => by cases z) _ _ hv
end

end TW

end
section
namespace TW
open PySem PySem.Spec PyProof.Rows L2

/-! ### tests -/
def asB : PyData → M Bool
  | .bool b => .ret b
  | _ => .st
def truthy? : PyData → Option Bool
  | .none => some false
  | .bool b => some b
  | .int i => some (i != 0)
  | .str x => if x.length ≤ sizeLine then some ((x.length : Int) != 0) else none
  | .list ds => some (!ds.isEmpty)
  | .tuple ds => some (!ds.isEmpty)
  | .dict _ => none
def dTr (d : M PyData) : M Bool := d.bind fun x => .opt (truthy? x)
section
variable {K : PySem.W.Frag} {TG : List TbK} {W : WX} {s : L2.St} {H : Hp}
theorem rd_asB {d : M PyData} {Q : Bool → Hp → Prop} (h : rd K TG W RB (d.bind asB) s H Q) : rd K TG W (RE K) d s H (fun x H1 => ∃ k, x = .bl k ∧ Q k H1) := by
  obtain ⟨B, F, G0, G, r, i, p⟩ := h
  refine ⟨B, F, G0, G, r, i, post_imp (fun x H1 q => ?_) _ (post_bind (R1 := RE K) _ p)⟩
  obtain ⟨G1, r1, a, e, i1, v1, p1⟩ := q
  cases a with
  | bool b => exact ⟨b, v1, p1 G1 H1 b (.refl _) i1 rfl⟩
  | none => exact p1.elim
  | int _ => exact p1.elim
  | str _ => exact p1.elim
  | list _ => exact p1.elim
  | tuple _ => exact p1.elim
  | dict _ => exact p1.elim
theorem isEmpty_rva {G : Hp} : ∀ {ds : List PyData} {xs : List V}, RvA K G ds xs → xs.isEmpty = ds.isEmpty
  | [], _, h => by cases h; rfl
  | d :: ds, _, ⟨x, r, h, _, _⟩ => by subst h; rfl
theorem tru_of {G : Hp} {x : V} {d : PyData} {k : Bool} (g : Same G H) (h : Rv K G d x) (e : truthy? d = some k) : TruV K x H k := by
  cases d with
  | none => cases h; cases e; rfl
  | bool b => cases h; cases e; rfl
  | int i => cases h; cases e; rfl
  | str z =>
    cases h
    have e : (if z.length ≤ sizeLine then some ((z.length : Int) != 0) else none) = some k := e
    split at e
    · rename_i hz; cases e; exact ⟨hz, rfl⟩
    · cases e
  | list ds =>
    obtain ⟨a, xs, h1, h2, h3⟩ := h
    subst h1; cases e
    exact .inl ⟨xs, same_l g h2, by rw [isEmpty_rva h3]⟩
  | tuple ds =>
    obtain ⟨a, xs, h1, h2, h3⟩ := h
    subst h1; cases e
    exact .inr (.inl ⟨xs, same_t g h2, by rw [isEmpty_rva h3]⟩)
  | dict _ => cases e
theorem rd_tru {d : M PyData} {Q : Bool → Hp → Prop} (h : rd K TG W RB (dTr d) s H Q) : rd K TG W (RE K) d s H (fun x H1 => ∃ k, TruV K x H1 k ∧ Q k H1) := by
  obtain ⟨B, F, G0, G, r, i, p⟩ := h
  refine ⟨B, F, G0, G, r, i, post_imp (fun x H1 q => ?_) _ (post_bind (R1 := RE K) _ p)⟩
  obtain ⟨G1, r1, a, e, i1, v1, p1⟩ := q
  cases hk : truthy? a with
  | none => rw [hk] at p1; exact p1.elim
  | some k => rw [hk] at p1; exact ⟨k, tru_of i1.gh v1 hk, p1 G1 H1 k (.refl _) i1 rfl⟩
end
section
variable {X : Cx} {TG : List TbK} {W : WX} {a b c e : Expr} {da db dc : M PyData} {ta tb tc : M Bool} {pos : Pos} {rest : List Expr}
/-- a bool's expression as a test -/
theorem dt_val {d : M PyData} (h : DE X TG W e d) (he : ∀ whole, isTrue e X.env whole = (do let v ← whole; standAt e.pos; holding [v] (truthy v)) := by intro _; rfl) : DT X TG W e (d.bind asB) :=
  PT_imp (pt_val h he) fun s H Q q => rd_asB q
/-- any expression as a test -/
theorem dt_tr {d : M PyData} (h : DE X TG W e d) (he : ∀ whole, isTrue e X.env whole = (do let v ← whole; standAt e.pos; holding [v] (truthy v)) := by intro _; rfl) : DT X TG W e (dTr d) :=
  PT_imp (pt_truth h he) fun s H Q q => rd_tru q
def dtNot (t : M Bool) : M Bool := t.bind fun k => .ret (!k)
def dtAnd (t u : M Bool) : M Bool := t.bind fun k => if k then u else .ret false
def dtOr (t u : M Bool) : M Bool := t.bind fun k => if k then .ret true else u
theorem dt_not (h : DT X TG W a ta) : DT X TG W (.UnaryOp .Not a pos) (dtNot ta) := PT_imp (pt_not h) fun s H Q q => by
  obtain ⟨B, F, G0, G, r, i, p⟩ := q
  refine ⟨B, F, G0, G, r, i, post_imp (fun x H1 q => ?_) _ (post_bind (R1 := RB) _ p)⟩
  obtain ⟨G1, r1, k, e, i1, v1, p1⟩ := q
  have v1 : k = x := v1
  subst v1
  exact p1 G1 H1 _ (.refl _) i1 rfl
/-- and, or as tests -/
def DW (X : Cx) (TG : List TbK) (W : WX) (e : Expr) (d : M Bool) : Prop := PW X e (rd X.K TG W RB d)
theorem DW.dt (h : DW X TG W a ta) : DT X TG W a ta := PW.pt h
theorem PW_imp {X : Cx} {e : Expr} {t t' : TT} (h : PW X e t) (w : ∀ s H Q, t' s H Q → t s H Q) : PW X e t' := ⟨fun wh pins s σ H Q I q => h.run wh pins s σ H Q I (w _ _ _ q)⟩
theorem dw_and1 (h : DT X TG W a ta) : DW X TG W (.BoolOp .And [a] pos) ta := pw_and1 h
theorem dw_or1 (h : DT X TG W a ta) : DW X TG W (.BoolOp .Or [a] pos) ta := pw_or1 h
theorem dw_and (h : DT X TG W a ta) (h2 : DW X TG W (.BoolOp .And (b :: rest) pos) tb) : DW X TG W (.BoolOp .And (a :: b :: rest) pos) (dtAnd ta tb) := PW_imp (pw_and h h2) fun s H Q q => by
  obtain ⟨B, F, G0, G, r, i, p⟩ := q
  refine ⟨B, F, G0, G, r, i, post_imp (fun x H1 q => ?_) _ (post_bind (R1 := RB) _ p)⟩
  obtain ⟨G1, r1, k, e, i1, v1, p1⟩ := q
  have v1 : k = x := v1
  subst v1
  cases k with
  | true => exact ⟨B, F, G0, G1, r1, i1, p1⟩
  | false => exact p1 G1 H1 _ (.refl _) i1 rfl
theorem dw_or (h : DT X TG W a ta) (h2 : DW X TG W (.BoolOp .Or (b :: rest) pos) tb) : DW X TG W (.BoolOp .Or (a :: b :: rest) pos) (dtOr ta tb) := PW_imp (pw_or h h2) fun s H Q q => by
  obtain ⟨B, F, G0, G, r, i, p⟩ := q
  refine ⟨B, F, G0, G, r, i, post_imp (fun x H1 q => ?_) _ (post_bind (R1 := RB) _ p)⟩
  obtain ⟨G1, r1, k, e, i1, v1, p1⟩ := q
  have v1 : k = x := v1
  subst v1
  cases k with
  | true => exact p1 G1 H1 _ (.refl _) i1 rfl
  | false => exact ⟨B, F, G0, G1, r1, i1, p1⟩
/-! ### and, or, not, if as values: the first ones bools -/
def dAnd (x y : M PyData) : M PyData := (x.bind asB).bind fun k => if k then y else .ret (.bool false)
def dOr (x y : M PyData) : M PyData := (x.bind asB).bind fun k => if k then .ret (.bool true) else y
def dNot (x : M PyData) : M PyData := (x.bind asB).bind fun k => .ret (.bool (!k))
def dIf (t : M Bool) (x y : M PyData) : M PyData := t.bind fun k => if k then x else y
theorem rd_asB2 {γ δ : Type} {R2 : RL γ δ} {K : PySem.W.Frag} {s : L2.St} {H : Hp} {d : M PyData} {k : Bool → M γ} {Q : δ → Hp → Prop} (h : rd K TG W R2 ((d.bind asB).bind k) s H Q) :
    rd K TG W (RE K) d s H (fun x H1 => ∃ b, x = .bl b ∧ rd K TG W R2 (k b) s H1 Q) := by
  refine rd_asB (Q := fun b H1 => rd K TG W R2 (k b) s H1 Q) ?_
  obtain ⟨B, F, G0, G, r, i, p⟩ := h
  refine ⟨B, F, G0, G, r, i, post_imp (fun x H1 q => ?_) _ (post_bind (R1 := RB) _ p)⟩
  obtain ⟨G1, r1, k, e, i1, v1, p1⟩ := q
  have v1 : k = x := v1
  subst v1
  exact ⟨B, F, G0, G1, r1, i1, p1⟩
theorem de_one {op} (h : DE X TG W a da) : DE X TG W (.BoolOp op [a] pos) da := pe_one h
theorem de_and (h : DE X TG W a da) (h2 : DE X TG W (.BoolOp .And (b :: rest) pos) db) : DE X TG W (.BoolOp .And (a :: b :: rest) pos) (dAnd da db) := PE_imp (pe_and h h2) fun s H Q q => by
  obtain ⟨B, F, G0, G, r, i, p⟩ := rd_asB2 q
  refine ⟨B, F, G0, G, r, i, post_imp (fun x H1 q => ?_) _ p⟩
  obtain ⟨k, rfl, z⟩ := q
  refine ⟨k, rfl, ?_⟩
  cases k with
  | true => exact z
  | false => exact rd_ret (b := V.bl false) z fun _ => rfl
theorem de_or (h : DE X TG W a da) (h2 : DE X TG W (.BoolOp .Or (b :: rest) pos) db) : DE X TG W (.BoolOp .Or (a :: b :: rest) pos) (dOr da db) := PE_imp (pe_or h h2) fun s H Q q => by
  obtain ⟨B, F, G0, G, r, i, p⟩ := rd_asB2 q
  refine ⟨B, F, G0, G, r, i, post_imp (fun x H1 q => ?_) _ p⟩
  obtain ⟨k, rfl, z⟩ := q
  refine ⟨k, rfl, ?_⟩
  cases k with
  | true => exact rd_ret (b := V.bl true) z fun _ => rfl
  | false => exact z
theorem de_not (h : DE X TG W a da) : DE X TG W (.UnaryOp .Not a pos) (dNot da) := PE_imp (pe_not h) fun s H Q q => by
  obtain ⟨B, F, G0, G, r, i, p⟩ := rd_asB2 q
  refine ⟨B, F, G0, G, r, i, post_imp (fun x H1 q => ?_) _ p⟩
  obtain ⟨k, rfl, z⟩ := q
  exact ⟨k, rfl, rd_ret (b := V.bl (!k)) z fun _ => rfl⟩
theorem rd_test {γ δ : Type} {R2 : RL γ δ} {K : PySem.W.Frag} {s : L2.St} {H : Hp} {t : M Bool} {k : Bool → M γ} {Q : δ → Hp → Prop} (h : rd K TG W R2 (t.bind k) s H Q) : rd K TG W RB t s H (fun b H1 => rd K TG W R2 (k b) s H1 Q) := by
  obtain ⟨B, F, G0, G, r, i, p⟩ := h
  refine ⟨B, F, G0, G, r, i, post_imp (fun x H1 q => ?_) _ (post_bind (R1 := RB) _ p)⟩
  obtain ⟨G1, r1, k, e, i1, v1, p1⟩ := q
  have v1 : k = x := v1
  subst v1
  exact ⟨B, F, G0, G1, r1, i1, p1⟩
theorem de_if (hc : DT X TG W c tc) (ha : DE X TG W a da) (hb : DE X TG W b db) : DE X TG W (.IfExp c a b pos) (dIf tc da db) := PE_imp (pe_ifExp hc ha hb) fun s H Q q => by
  obtain ⟨B, F, G0, G, r, i, p⟩ := rd_test q
  refine ⟨B, F, G0, G, r, i, post_imp (fun x H1 q => ?_) _ p⟩
  cases x with
  | true => exact q
  | false => exact q
end

/-! ### argument lists and displays -/
inductive Arg where
  | v (d : PyData)
  | io (i : Nat)
def RArg (K : PySem.W.Frag) (s : L2.St) (G : Hp) : List Arg → List V → Prop
  | [], xs => xs = []
  | .v d :: as, xs => ∃ x r, xs = x :: r ∧ Rv K G d x ∧ RArg K s G as r
  | .io i :: as, xs => ∃ x r, xs = x :: r ∧ s[i]? = some (some x) ∧ RArg K s G as r
theorem RArg.mono {K : PySem.W.Frag} {s : L2.St} {G G' : Hp} (e : Same G G') : ∀ {as : List Arg} {xs : List V}, RArg K s G as xs → RArg K s G' as xs
  | [], _, h => h
  | .v d :: as, _, ⟨x, r, h1, h2, h3⟩ => ⟨x, r, h1, Rv.mono e _ _ h2, RArg.mono e h3⟩
  | .io i :: as, _, ⟨x, r, h1, h2, h3⟩ => ⟨x, r, h1, h2, RArg.mono e h3⟩
def DA (X : Cx) (TG : List TbK) (W : WX) (es : List Expr) (d : M (List Arg)) : Prop := PA X es (fun s H Q => rd X.K TG W (RArg X.K s) d s H Q)
def aNil : M (List Arg) := .ret []
def aV (d : M PyData) (r : M (List Arg)) : M (List Arg) := d.bind fun x => r.bind fun xs => .ret (.v x :: xs)
def aIo (i : Nat) (r : M (List Arg)) : M (List Arg) := fun z => match z[i]?.bind Sl.own with
  | some _ => (r.bind fun xs => .ret (.io i :: xs)) z
  | none => .st
section
variable {X : Cx} {TG : List TbK} {W : WX} {e : Expr} {es : List Expr} {d : M PyData} {r : M (List Arg)} {pos : Pos}
theorem da_nil : DA X TG W [] aNil := PA_imp pa_nil fun s H Q h => rd_ret (b := ([] : List V)) (R := RArg X.K s) h fun _ => rfl
theorem da_cons (he : DE X TG W e d) (hr : DA X TG W es r) (hs : starEach (e :: es) X.env = (false, eval e X.env) :: starEach es X.env := by rfl) : DA X TG W (e :: es) (aV d r) := PA_imp (pa_cons he hr hs) fun s H Q h => by
  obtain ⟨B, F, G0, G, z, i, p⟩ := rd_bind (R1 := RE X.K) h
  refine ⟨B, F, G0, G, z, i, post_imp (fun x H1 q => ?_) _ p⟩
  obtain ⟨B, F, G0, G1, r1, a, i1, v1, p1⟩ := q
  refine ⟨B, F, G0, G1, r1, i1, post_imp (fun xs H2 q => ?_) _ (post_bind (R1 := RArg X.K s) _ p1)⟩
  obtain ⟨G2, r2, as, e2, i2, v2, p2⟩ := q
  exact p2 G2 H2 _ (.refl _) i2 ⟨x, xs, rfl, Rv.mono e2 _ _ v1, v2⟩
theorem da_io {i : Nat} {x : Str} (he : PE X (.Name x pos) (tVar i)) (hr : DA X TG W es r) (hs : starEach (.Name x pos :: es) X.env = (false, eval (.Name x pos) X.env) :: starEach es X.env := by rfl) : DA X TG W (.Name x pos :: es) (aIo i r) :=
  PA_imp (pa_cons he hr hs) fun s H Q h => by
    obtain ⟨B, F, G0, G, z, ir, p⟩ := h
    unfold aIo at p
    cases ho : z[i]?.bind Sl.own with
    | none => rw [ho] at p; exact p.elim
    | some ds =>
      rw [ho] at p
      obtain ⟨a, xs, h1, _⟩ := ir.owns i ds ho
      refine ⟨_, h1, B, F, G0, G, z, ir, post_imp (fun ys H2 q => ?_) _ (post_bind (R1 := RArg X.K s) _ p)⟩
      obtain ⟨G2, r2, as, e2, i2, v2, p2⟩ := q
      exact p2 G2 H2 _ (.refl _) i2 ⟨_, ys, rfl, h1, v2⟩
/-- all arguments values -/
def allV : List Arg → Option (List PyData)
  | [] => some []
  | .v d :: as => (allV as).map (d :: ·)
  | .io _ :: _ => none
theorem allV_rv {K : PySem.W.Frag} {s : L2.St} {G : Hp} : ∀ {as : List Arg} {ds : List PyData} {xs : List V}, allV as = some ds → RArg K s G as xs → RvA K G ds xs
  | [], _, _, h, q => by cases h; exact q
  | .v d :: as, ds, _, h, ⟨x, r, h1, h2, h3⟩ => by
    unfold allV at h
    cases hq : allV as with
    | none => rw [hq] at h; cases h
    | some es => rw [hq] at h; cases h; exact ⟨x, r, h1, h2, allV_rv hq h3⟩
  | .io _ :: _, _, _, h, _ => by cases h
/-- what is made of plain arguments -/
def aBind {α : Type} (r : M (List Arg)) (k : List PyData → M α) : M α := r.bind fun as => match allV as with
  | some ds => k ds
  | none => .st
theorem rd_args {γ δ : Type} {R2 : RL γ δ} {s : L2.St} {H : Hp} {k : List PyData → M γ} {Q : δ → Hp → Prop} (h : rd X.K TG W R2 (aBind r k) s H Q) :
    rd X.K TG W (RArg X.K s) r s H (fun xs H1 => ∃ B F G0 G1 r1 ds, SR X.K TG B F G0 G1 H1 r1 s ∧ RvA X.K G1 ds xs ∧ post X.K TG W R2 B F G0 G1 s Q (k ds r1)) := by
  obtain ⟨B, F, G0, G, z, i, p⟩ := rd_bind (R1 := RArg X.K s) h
  refine ⟨B, F, G0, G, z, i, post_imp (fun x H1 q => ?_) _ p⟩
  obtain ⟨B, F, G0, G1, r1, as, i1, v1, p1⟩ := q
  cases hq : allV as with
  | none => rw [hq] at p1; exact p1.elim
  | some ds => rw [hq] at p1; exact ⟨B, F, G0, G1, r1, ds, i1, allV_rv hq v1, p1⟩
def dTup (r : M (List Arg)) : M PyData := aBind r fun ds => if ds.length ≤ sizeLine then .ret (.tuple ds) else .st
theorem de_tup {k : Nat} (h : DA X TG W es r) : DE X TG W (.Tuple es k pos) (dTup r) := PE_imp (pe_tup h) fun s H Q q => by
  obtain ⟨B, F, G0, G, z, i, p⟩ := rd_args q
  refine ⟨B, F, G0, G, z, i, post_imp (fun xs H1 q => ?_) _ p⟩
  obtain ⟨B, F, G0, G1, r1, ds, i1, v1, p1⟩ := q
  split at p1
  · rename_i hz
    refine ⟨by rw [v1.len]; exact hz, fun a ha => ?_⟩
    have g := Grow.new i1.gh ha (.tup xs) (fun _ z => by cases z)
    exact p1 _ _ _ g.g (i1.grow g) ⟨a, xs, rfl, .inl (.inl upd_same), RvA.mono g.g _ _ v1⟩
  · exact p1.elim
end

/-! ### a new list -/
section
variable (K : PySem.W.Frag) (TG : List TbK) (W : WX)
/-- the list at a is new: no one else has it -/
structure Free (B : List (Nat × Addr)) (F G H : Hp) (r : List Sl) (s : L2.St) (a : Addr) (ds : List PyData) : Prop where
  ex : ∃ xs, H a = some (HO.lst xs) ∧ RvA K G ds xs
  g : G a = none
  f : F a = none
  sl : ∀ (j : Nat) (es : List PyData), r[j]?.bind Sl.own = some es → s[j]? ≠ some (some (V.ref a))
def postL (B : List (Nat × Addr)) (F G0 G : Hp) (s : L2.St) (Q : V → Hp → Prop) : Res (List PyData) → Prop
  | .ok ds r => ∀ G' H' a, Same G G' → SR K TG B F G0 G' H' r s → Free K B F G' H' r s a ds → Q (.ref a) H'
  | .ex e r => ∀ G' H' c dx, Same G G' → SR K TG B F G0 G' H' r s → ExR K G' e c dx → W c dx s H'
  | .st => False
def rdL (d : M (List PyData)) : TE := fun s H Q => ∃ B F G0 G r, SR K TG B F G0 G H r s ∧ postL K TG W B F G0 G s Q (d r)
end
def DL (X : Cx) (TG : List TbK) (W : WX) (e : Expr) (d : M (List PyData)) : Prop := PE X e (rdL X.K TG W d)
section
variable {X : Cx} {TG : List TbK} {W : WX} {e : Expr} {es : List Expr} {d : M (List PyData)} {r : M (List Arg)} {pos : Pos}
theorem postL_imp {K : PySem.W.Frag} {B : List (Nat × Addr)} {F G0 G : Hp} {s : L2.St} {Q Q' : V → Hp → Prop} (q : ∀ b H, Q b H → Q' b H) : ∀ (x : Res (List PyData)), postL K TG W B F G0 G s Q x → postL K TG W B F G0 G s Q' x
  | .ok a r, h => fun G' H' b e' i z => q _ _ (h G' H' b e' i z)
  | .ex x r, h => h
  | .st, h => h
theorem Free.keep {K : PySem.W.Frag} {B : List (Nat × Addr)} {F G0 G H : Hp} {z : List Sl} {s : L2.St} {a : Addr} {ds : List PyData} (i : SR K TG B F G0 G H z s) (f : Free K B F G H z s a ds) :
    ∃ G', Same G G' ∧ SR K TG B F G0 G' H z s ∧ Rv K G' (.list ds) (.ref a) := by
  obtain ⟨xs, h1, h2⟩ := f.ex
  have sg : Same G (upd G a (.lst xs)) := same_new f.g
  refine ⟨upd G a (.lst xs), sg, ?_, ⟨a, xs, rfl, upd_same, RvA.mono sg _ _ h2⟩⟩
  refine ⟨i.len, fun b u q => ?_, i.fh, i.g0.trans sg, fun b u q => ?_, fun b ps q => ?_, i.ft, i.tb, fun k d q => ?_, fun k es q => ?_, i.sep, i.ios⟩
  · by_cases w : b = a
    · subst w; rw [upd_same] at q; cases q; exact h1
    · rw [upd_ne w] at q; exact i.gh _ _ q
  · by_cases w : b = a
    · subst w; exact .inl f.f
    · rw [upd_ne w] at q; exact i.fg b u q
  · by_cases w : b = a
    · subst w; rw [upd_same] at q; cases q
    · rw [upd_ne w] at q; exact i.gt b ps q
  · obtain ⟨v, a1, a2⟩ := i.vals k d q
    exact ⟨v, a1, Rv.mono sg _ _ a2⟩
  · obtain ⟨a', xs', k1, k2, k3, k4, k5⟩ := i.owns k es q
    refine ⟨a', xs', k1, k2, RvA.mono sg _ _ k3, ?_, k5⟩
    rw [upd_ne fun e => f.sl k es q (by rw [← e]; exact k1)]
    exact k4
/-- a new list as a value: it is changed no more -/
def dFz (d : M (List PyData)) : M PyData := d.bind fun ds => .ret (.list ds)
theorem rdL_fz {K : PySem.W.Frag} {s : L2.St} {H : Hp} {Q : VK} (h : rd K TG W (RE K) (dFz d) s H Q) : rdL K TG W d s H Q := by
  obtain ⟨B, F, G0, G, z, i, p⟩ := h
  refine ⟨B, F, G0, G, z, i, ?_⟩
  unfold dFz M.bind at p
  cases hd : d z with
  | ok ds r1 =>
    rw [hd] at p
    intro G' H' a e i' f
    obtain ⟨G2, h3, h4, h5⟩ := f.keep i'
    exact p _ _ _ (e.trans h3) h4 h5
  | ex x r1 => rw [hd] at p; exact p
  | st => rw [hd] at p; exact p
end
end TW

end
section
namespace TW
open PySem PySem.Spec PyProof.Rows L2

/-! ### changes of slots -/
def Sl.put : Sl → List PyData → Sl
  | .io _, ds => .io ds
  | _, ds => .l ds
section
variable {K : PySem.W.Frag} {TG : List TbK} {B : List (Nat × Addr)} {F G0 G H : Hp} {r : List Sl} {s : L2.St}
/-- the heap grows, the values' part as it was -/
theorem grow_out {p : Addr} {o : HO} (e : Same G H) (h : H p = none) : Grow G H G (upd H p o) := ⟨.refl _, same_new h, e.trans (same_new h), fun _ _ q => .inl q, fun _ _ q => q⟩
theorem SR.lt (i : SR K TG B F G0 G H r s) {j : Nat} (h : j < r.length) : j < s.length := by rw [← i.len]; exact h
/-- a name is given a value -/
theorem SR.setv (i : SR K TG B F G0 G H r s) {j : Nat} {d : PyData} {v : V} (hj : j < r.length) (hio : ∀ ds, r[j]? ≠ some (.io ds)) (hv : Rv K G d v) : SR K TG B F G0 G H (r.set j (.v d)) (s.set j (some v)) := by
  refine ⟨by rw [List.length_set, List.length_set]; exact i.len, i.gh, i.fh, i.g0, i.fg, i.gt, i.ft, i.tb, fun k e q => ?_, fun k es q => ?_, fun k l a es es' n q1 q2 e1 => ?_, fun p hp => ?_⟩
  · by_cases e : j = k
    · subst e
      rw [List.getElem?_set_self hj] at q
      cases q
      exact ⟨v, List.getElem?_set_self (i.lt hj), hv⟩
    · rw [List.getElem?_set_ne e] at q ⊢
      exact i.vals k _ q
  · obtain ⟨n, q⟩ := own_v q
    rw [List.getElem?_set_ne n]
    exact i.owns k es q
  · obtain ⟨n1, q1⟩ := own_v q1
    obtain ⟨n2, q2⟩ := own_v q2
    rw [List.getElem?_set_ne n1] at e1
    rw [List.getElem?_set_ne n2]
    exact i.sep k l a es es' n q1 q2 e1
  · obtain ⟨⟨es, e1⟩, e2⟩ := i.ios p hp
    have n : j ≠ p.1 := fun e => hio es (by rw [e]; exact e1)
    rw [List.getElem?_set_ne n, List.getElem?_set_ne n]
    exact ⟨⟨es, e1⟩, e2⟩
theorem own_set {r : List Sl} {i j : Nat} {x : Sl} {ds : List PyData} (h : (r.set i x)[j]?.bind Sl.own = some ds) : (i = j ∧ x.own = some ds) ∨ (i ≠ j ∧ r[j]?.bind Sl.own = some ds) := by
  by_cases e : i = j
  · subst e
    rw [List.getElem?_set_self'] at h
    cases q : r[i]? with
    | none => rw [q] at h; simp at h
    | some y => rw [q] at h; exact .inl ⟨rfl, h⟩
  · rw [List.getElem?_set_ne e] at h
    exact .inr ⟨e, h⟩
/-- a name is given a new list -/
theorem SR.setl (i : SR K TG B F G0 G H r s) {j : Nat} {ds : List PyData} {a : Addr} (hj : j < r.length) (hio : ∀ ds, r[j]? ≠ some (.io ds)) (f : Free K B F G H r s a ds) : SR K TG B F G0 G H (r.set j (.l ds)) (s.set j (some (.ref a))) := by
  obtain ⟨xs, h1, h2⟩ := f.ex
  refine ⟨by rw [List.length_set, List.length_set]; exact i.len, i.gh, i.fh, i.g0, i.fg, i.gt, i.ft, i.tb, fun k e q => ?_, fun k es q => ?_, fun k l b es es' n q1 q2 e1 => ?_, fun p hp => ?_⟩
  · by_cases e : j = k
    · subst e
      rw [List.getElem?_set_self hj] at q
      cases q
    · rw [List.getElem?_set_ne e] at q ⊢
      exact i.vals k _ q
  · rcases own_set q with ⟨e, q'⟩ | ⟨n, q'⟩
    · subst e
      cases q'
      exact ⟨a, xs, List.getElem?_set_self (i.lt hj), h1, h2, f.g, f.f⟩
    · rw [List.getElem?_set_ne n]
      exact i.owns k es q'
  · rcases own_set q1 with ⟨z, q1'⟩ | ⟨n1, q1'⟩
    · subst z
      rw [List.getElem?_set_self (i.lt hj)] at e1
      have ea : a = b := by
        have z : some (some (V.ref a)) = some (some (V.ref b)) := e1
        cases z; rfl
      subst ea
      rcases own_set q2 with ⟨z, _⟩ | ⟨n2, q2'⟩
      · exact absurd z n
      · rw [List.getElem?_set_ne n2]
        exact f.sl l es' q2'
    · rw [List.getElem?_set_ne n1] at e1
      rcases own_set q2 with ⟨z, q2'⟩ | ⟨n2, q2'⟩
      · subst z
        rw [List.getElem?_set_self (i.lt hj)]
        intro z
        have ea : a = b := by
          have z : some (some (V.ref a)) = some (some (V.ref b)) := z
          cases z; rfl
        subst ea
        exact f.sl k es q1' e1
      · rw [List.getElem?_set_ne n2]
        exact i.sep k l b es es' n q1' q2' e1
  · obtain ⟨⟨es, e1⟩, e2⟩ := i.ios p hp
    have n : j ≠ p.1 := fun e => hio es (by rw [e]; exact e1)
    rw [List.getElem?_set_ne n, List.getElem?_set_ne n]
    exact ⟨⟨es, e1⟩, e2⟩
theorem put_own (x : Sl) (ds : List PyData) : (x.put ds).own = some ds := by cases x <;> rfl
/-- a name's own list is written -/
theorem SR.wr (i : SR K TG B F G0 G H r s) {j : Nat} {x : Sl} {ds es : List PyData} {a : Addr} {ys : List V} (h : r[j]? = some x) (ho : x.own = some ds) (hs : s[j]? = some (some (V.ref a))) (hv : RvA K G es ys) :
    SR K TG B F G0 G (upd H a (.lst ys)) (r.set j (x.put es)) s := by
  have hq : r[j]?.bind Sl.own = some ds := by rw [h]; exact ho
  obtain ⟨a', xs, h1, h2, h3, h4, h5⟩ := i.owns j ds hq
  have ea : a = a' := by rw [hs] at h1; cases h1; rfl
  subst ea
  have hj : j < r.length := (List.getElem?_eq_some_iff.mp h).1
  refine ⟨by rw [List.length_set]; exact i.len, fun b u q => ?_, fun b u q => ?_, i.g0, i.fg, i.gt, i.ft, fun P hP => ?_, fun k d q => ?_, fun k fs q => ?_, fun k l b fs fs' n q1 q2 e1 => ?_, fun p hp => ?_⟩
  · rw [upd_ne fun e => by rw [e, h4] at q; cases q]; exact i.gh _ _ q
  · rw [upd_ne fun e => by rw [e, h5] at q; cases q]; exact i.fh _ _ q
  · exact (i.tb P hP).upd h2 (fun _ e => by cases e) (fun _ => codeO_lst)
  · by_cases e : j = k
    · subst e
      rw [List.getElem?_set_self hj] at q
      cases x <;> cases q
    · rw [List.getElem?_set_ne e] at q
      exact i.vals k _ q
  · rcases own_set q with ⟨e, q'⟩ | ⟨n, q'⟩
    · subst e
      rw [put_own] at q'
      cases q'
      exact ⟨a, ys, hs, upd_same, hv, h4, h5⟩
    · obtain ⟨b, zs, k1, k2, k3, k4, k5⟩ := i.owns k fs q'
      refine ⟨b, zs, k1, ?_, k3, k4, k5⟩
      rw [upd_ne fun e => i.sep j k a ds fs n hq q' hs (by rw [← e]; exact k1)]
      exact k2
  · have o1 : ∃ fs, r[k]?.bind Sl.own = some fs := by
      rcases own_set q1 with ⟨e, _⟩ | ⟨_, q'⟩
      · subst e; exact ⟨_, hq⟩
      · exact ⟨_, q'⟩
    have o2 : ∃ fs, r[l]?.bind Sl.own = some fs := by
      rcases own_set q2 with ⟨e, _⟩ | ⟨_, q'⟩
      · subst e; exact ⟨_, hq⟩
      · exact ⟨_, q'⟩
    obtain ⟨_, o1⟩ := o1
    obtain ⟨_, o2⟩ := o2
    exact i.sep k l b _ _ n o1 o2 e1
  · obtain ⟨⟨fs, e1⟩, e2⟩ := i.ios p hp
    refine ⟨?_, e2⟩
    by_cases e : j = p.1
    · rw [← e, List.getElem?_set_self hj]
      rw [← e, h] at e1
      cases e1
      exact ⟨es, rfl⟩
    · rw [List.getElem?_set_ne e]
      exact ⟨fs, e1⟩
end

/-! ### a written list -/
def lLst (r : M (List Arg)) : M (List PyData) := aBind r fun ds => if ds.length ≤ sizeLine then .ret ds else .st
theorem SR.newl {K : PySem.W.Frag} {TG : List TbK} {B : List (Nat × Addr)} {F G0 G H : Hp} {r : List Sl} {s : L2.St} (i : SR K TG B F G0 G H r s) {p : Addr} {xs : List V} {ds : List PyData} (hp : H p = none) (hv : RvA K G ds xs) :
    SR K TG B F G0 G (upd H p (.lst xs)) r s ∧ Free K B F G (upd H p (.lst xs)) r s p ds :=
  ⟨i.grow (grow_out i.gh hp), ⟨xs, upd_same, hv⟩, none_sub i.gh hp, none_sub i.fh hp, fun j es q e => by
    obtain ⟨a, ys, h1, h2, _⟩ := i.owns j es q
    rw [e] at h1
    cases h1
    rw [hp] at h2
    cases h2⟩
section
variable {X : Cx} {TG : List TbK} {W : WX} {e : Expr} {es : List Expr} {r : M (List Arg)} {pos : Pos}
theorem postL_mono {K : PySem.W.Frag} {W : WX} {B : List (Nat × Addr)} {F G0 G G1 : Hp} {s : L2.St} {Q : VK} (e : Same G G1) : ∀ (x : Res (List PyData)), postL K TG W B F G0 G s Q x → postL K TG W B F G0 G1 s Q x
  | .ok f r, h => fun G' H' a e' => h G' H' a (e.trans e')
  | .ex x r, h => fun G' H' c dx e' => h G' H' c dx (e.trans e')
  | .st, h => h
theorem post_argsL {s : L2.St} {H : Hp} {k : List PyData → M (List PyData)} {Q : VK} (h : rdL X.K TG W (aBind r k) s H Q) :
    rd X.K TG W (RArg X.K s) r s H (fun xs H1 => ∃ B F G0 G1 r1 ds, SR X.K TG B F G0 G1 H1 r1 s ∧ RvA X.K G1 ds xs ∧ postL X.K TG W B F G0 G1 s Q (k ds r1)) := by
  obtain ⟨B, F, G0, G, z, i, p⟩ := h
  refine ⟨B, F, G0, G, z, i, ?_⟩
  unfold aBind M.bind at p
  cases hr : r z with
  | ok as r1 =>
    rw [hr] at p
    intro G' H' b e' i' v
    have p : postL X.K TG W B F G0 G s Q ((match allV as with | some ds => k ds | none => M.st) r1) := p
    cases hq : allV as with
    | none => rw [hq] at p; exact p.elim
    | some ds =>
      rw [hq] at p
      refine ⟨B, F, G0, G', r1, ds, i', allV_rv hq v, ?_⟩
      exact postL_mono e' _ p
  | ex x r1 => rw [hr] at p; exact p
  | st => rw [hr] at p; exact p
theorem dl_lst (h : DA X TG W es r) : DL X TG W (.List es pos) (lLst r) := PE_imp (pe_lst h) fun s H Q q => by
  obtain ⟨B, F, G0, G, z, i, p⟩ := post_argsL q
  refine ⟨B, F, G0, G, z, i, post_imp (fun xs H1 q => ?_) _ p⟩
  obtain ⟨B, F, G0, G1, r1, ds, i1, v1, p1⟩ := q
  split at p1
  · rename_i hz
    refine ⟨by rw [v1.len]; exact hz, fun a ha => ?_⟩
    obtain ⟨i2, f⟩ := i1.newl ha v1
    exact p1 _ _ _ (.refl _) i2 f
  · exact p1.elim
theorem de_fz {d : M (List PyData)} (h : DL X TG W e d) : DE X TG W e (dFz d) := PE_imp h fun s H Q q => rdL_fz q
end

/-! ### statements -/
inductive Fl where
  | nx | bk | ct | rt (d : PyData)
def flow (K : PySem.W.Frag) (D : Ends) (G : Hp) (s : L2.St) (H : Hp) : Fl → Prop
  | .nx => D.nx s H
  | .bk => D.bk s H
  | .ct => D.ct s H
  | .rt d => ∀ v, Rv K G d v → D.rt v H
section
variable (K : PySem.W.Frag) (TG : List TbK) (W : WX)
def postS (B : List (Nat × Addr)) (F G0 G : Hp) (D : Ends) : Res Fl → Prop
  | .ok f r => ∀ G' H' s, Same G G' → SR K TG B F G0 G' H' r s → flow K D G' s H' f
  | .ex e r => ∀ G' H' s c dx, Same G G' → SR K TG B F G0 G' H' r s → ExR K G' e c dx → W c dx s H'
  | .st => False
def rdS (d : M Fl) : TS := fun D s H => ∃ B F G0 G r, SR K TG B F G0 G H r s ∧ postS K TG W B F G0 G D (d r)
end
def DS (X : Cx) (TG : List TbK) (W : WX) (st : Stmt) (d : M Fl) : Prop := PS X st (rdS X.K TG W d)
def DSs (X : Cx) (TG : List TbK) (W : WX) (st : List Stmt) (d : M Fl) : Prop := PSs X st (rdS X.K TG W d)
theorem postS_mono {K : PySem.W.Frag} {TG : List TbK} {W : WX} {B : List (Nat × Addr)} {F G0 G G1 : Hp} {D : Ends} (e : Same G G1) : ∀ (x : Res Fl), postS K TG W B F G0 G D x → postS K TG W B F G0 G1 D x
  | .ok f r, h => fun G' H' s e' => h G' H' s (e.trans e')
  | .ex x r, h => fun G' H' s c dx e' => h G' H' s c dx (e.trans e')
  | .st, h => h
/-- an expression ahead of a statement's rest -/
theorem rdS_bind {K : PySem.W.Frag} {TG : List TbK} {W : WX} {α β : Type} {R : RL α β} {d : M α} {k : α → M Fl} {D : Ends} {s : L2.St} {H : Hp} (h : rdS K TG W (d.bind k) D s H) :
    rd K TG W R d s H (fun b H1 => ∃ B F G0 G1 r1 a, SR K TG B F G0 G1 H1 r1 s ∧ R G1 a b ∧ postS K TG W B F G0 G1 D (k a r1)) := by
  obtain ⟨B, F, G0, G, r, i, p⟩ := h
  refine ⟨B, F, G0, G, r, i, ?_⟩
  unfold M.bind at p
  cases hr : d r with
  | ok a r1 =>
    rw [hr] at p
    exact fun G' H' b e i' v => ⟨B, F, G0, G', r1, a, i', v, postS_mono e _ p⟩
  | ex x r1 =>
    rw [hr] at p
    exact fun G' H' c dx e i' x => p G' H' s c dx e i' x
  | st => rw [hr] at p; exact p
def sSeq (a b : M Fl) : M Fl := fun r => match a r with
  | .ok .nx r1 => b r1
  | x => x
def sNil : M Fl := .ret .nx
def sRet (d : M PyData) : M Fl := d.bind fun x => .ret (.rt x)
def sRetN : M Fl := .ret (.rt .none)
def sDrop (d : M PyData) : M Fl := d.bind fun _ => .ret .nx
def sIf (t : M Bool) (a b : M Fl) : M Fl := t.bind fun k => if k then a else b
def tSet (i : Nat) (x : PyData) : M Fl := fun r => match r[i]? with
  | some (.io _) => .st
  | some _ => .ok .nx (r.set i (.v x))
  | none => .st
def sSet (i : Nat) (d : M PyData) : M Fl := d.bind (tSet i)
def tSetL (i : Nat) (x : List PyData) : M Fl := fun r => match r[i]? with
  | some (.io _) => .st
  | some _ => .ok .nx (r.set i (.l x))
  | none => .st
def sSetL (i : Nat) (d : M (List PyData)) : M Fl := d.bind (tSetL i)
section
variable {X : Cx} {TG : List TbK} {W : WX} {st : Stmt} {rest : List Stmt} {a b : M Fl} {e c : Expr} {d : M PyData} {t : M Bool} {pos : Pos}
theorem dss_nil : DSs X TG W [] sNil := PSs_imp pss_nil fun D s H h => by
  obtain ⟨B, F, G0, G, r, i, p⟩ := h
  exact p G H s (.refl _) i
theorem dss_cons (h1 : DS X TG W st a) (h2 : DSs X TG W rest b) : DSs X TG W (st :: rest) (sSeq a b) := PSs_imp (pss_cons h1 h2) fun D s H h => by
  obtain ⟨B, F, G0, G, r, i, p⟩ := h
  refine ⟨B, F, G0, G, r, i, ?_⟩
  unfold sSeq at p
  cases ha : a r with
  | ok f r1 =>
    rw [ha] at p
    cases f with
    | nx => exact fun G' H' s' e i' => ⟨B, F, G0, G', r1, i', postS_mono e _ p⟩
    | bk => exact p
    | ct => exact p
    | rt x => exact p
  | ex x r1 => rw [ha] at p; exact p
  | st => rw [ha] at p; exact p
theorem dss_one (h1 : DS X TG W st a) : DSs X TG W [st] a := pss_one h1
theorem ds_ret (h : DE X TG W e d) : DS X TG W (.Return (some e) pos) (sRet d) := PS_imp (L2.ps_ret h) fun D s H q => by
  obtain ⟨B, F, G0, G, r, i, p⟩ := rdS_bind (R := RE X.K) q
  refine ⟨B, F, G0, G, r, i, post_imp (fun x H1 q => ?_) _ p⟩
  obtain ⟨B, F, G0, G1, r1, a, i1, v1, p1⟩ := q
  exact p1 G1 H1 s (.refl _) i1 x v1
theorem ds_retN : DS X TG W (.Return none pos) sRetN := PS_imp ps_retN fun D s H q => by
  obtain ⟨B, F, G0, G, r, i, p⟩ := q
  exact p G H s (.refl _) i V.non rfl
theorem ds_expr (h : DE X TG W e d) (hs : swapsWith e none pos.line X.env = pure false := by rfl) : DS X TG W (.Expr e pos) (sDrop d) := PS_imp (ps_expr h hs) fun D s H q => by
  obtain ⟨B, F, G0, G, r, i, p⟩ := rdS_bind (R := RE X.K) q
  refine ⟨B, F, G0, G, r, i, post_imp (fun x H1 q => ?_) _ p⟩
  obtain ⟨B, F, G0, G1, r1, a, i1, v1, p1⟩ := q
  exact p1 G1 H1 s (.refl _) i1
theorem ds_if {u v : List Stmt} (hc : DT X TG W c t) (ha : DSs X TG W u a) (hb : DSs X TG W v b) : DS X TG W (.If c u v pos) (sIf t a b) := PS_imp (ps_if hc ha hb) fun D s H q => by
  obtain ⟨B, F, G0, G, r, i, p⟩ := rdS_bind (R := RB) q
  refine ⟨B, F, G0, G, r, i, post_imp (fun k H1 q => ?_) _ p⟩
  obtain ⟨B, F, G0, G1, r1, k', i1, v1, p1⟩ := q
  have v1 : k' = k := v1
  subst v1
  cases k' with
  | true => exact ⟨B, F, G0, G1, r1, i1, p1⟩
  | false => exact ⟨B, F, G0, G1, r1, i1, p1⟩
theorem ds_pass : DS X TG W (.Pass pos) sNil := PS_imp ps_pass fun D s H h => by
  obtain ⟨B, F, G0, G, r, i, p⟩ := h
  exact p G H s (.refl _) i
theorem ds_break : DS X TG W (.Break pos) (.ret .bk) := PS_imp ps_break fun D s H h => by
  obtain ⟨B, F, G0, G, r, i, p⟩ := h
  exact p G H s (.refl _) i
theorem ds_continue : DS X TG W (.Continue pos) (.ret .ct) := PS_imp ps_continue fun D s H h => by
  obtain ⟨B, F, G0, G, r, i, p⟩ := h
  exact p G H s (.refl _) i
theorem ds_never : DS X TG W st .st := PS_imp ps_never fun D s H h => by
  obtain ⟨B, F, G0, G, r, i, p⟩ := h
  exact p
theorem dss_never : DSs X TG W rest .st := PSs_imp pss_never fun D s H h => by
  obtain ⟨B, F, G0, G, r, i, p⟩ := h
  exact p
theorem post_tSet {K : PySem.W.Frag} {B : List (Nat × Addr)} {F G0 G H : Hp} {r : List Sl} {s : L2.St} {D : Ends} {i : Nat} {x : PyData} {v : V} (ir : SR K TG B F G0 G H r s) (p : postS K TG W B F G0 G D (tSet i x r)) (hv : Rv K G x v) : D.nx (s.set i (some v)) H := by
  unfold tSet at p
  cases h : r[i]? with
  | none => rw [h] at p; exact p.elim
  | some y =>
    have hj : i < r.length := (List.getElem?_eq_some_iff.mp h).1
    rw [h] at p
    cases y with
    | io _ => exact p.elim
    | un => exact p G H _ (.refl _) (ir.setv hj (fun ds z => by rw [h] at z; cases z) hv)
    | v _ => exact p G H _ (.refl _) (ir.setv hj (fun ds z => by rw [h] at z; cases z) hv)
    | l _ => exact p G H _ (.refl _) (ir.setv hj (fun ds z => by rw [h] at z; cases z) hv)
theorem post_tSetL {K : PySem.W.Frag} {B : List (Nat × Addr)} {F G0 G H : Hp} {r : List Sl} {s : L2.St} {D : Ends} {i : Nat} {x : List PyData} {v : Addr} (ir : SR K TG B F G0 G H r s) (p : postS K TG W B F G0 G D (tSetL i x r)) (hv : Free K B F G H r s v x) : D.nx (s.set i (some (.ref v))) H := by
  unfold tSetL at p
  cases h : r[i]? with
  | none => rw [h] at p; exact p.elim
  | some y =>
    have hj : i < r.length := (List.getElem?_eq_some_iff.mp h).1
    rw [h] at p
    cases y with
    | io _ => exact p.elim
    | un => exact p G H _ (.refl _) (ir.setl hj (fun ds z => by rw [h] at z; cases z) hv)
    | v _ => exact p G H _ (.refl _) (ir.setl hj (fun ds z => by rw [h] at z; cases z) hv)
    | l _ => exact p G H _ (.refl _) (ir.setl hj (fun ds z => by rw [h] at z; cases z) hv)
theorem ds_set {i : Nat} {te : TE} (h : PS X st (tAsg te (gName i))) (w : ∀ s H Q, rd X.K TG W (RE X.K) d s H Q → te s H Q) : DS X TG W st (sSet i d) := PS_imp h fun D s H q => by
  refine w s H _ ?_
  obtain ⟨B, F, G0, G, r, i, p⟩ := rdS_bind (R := RE X.K) q
  refine ⟨B, F, G0, G, r, i, post_imp (fun x H1 q => ?_) _ p⟩
  obtain ⟨B, F, G0, G1, r1, a, i1, v1, p1⟩ := q
  exact post_tSet i1 p1 v1
theorem ds_setL {i : Nat} {te : TE} {d : M (List PyData)} (h : PS X st (tAsg te (gName i))) (w : ∀ s H Q, rdL X.K TG W d s H Q → te s H Q) : DS X TG W st (sSetL i d) := PS_imp h fun D s H q => by
  refine w s H _ ?_
  obtain ⟨B, F, G0, G, r, ir, p⟩ := q
  refine ⟨B, F, G0, G, r, ir, ?_⟩
  unfold sSetL M.bind at p
  cases hd : d r with
  | ok ds r1 =>
    rw [hd] at p
    exact fun G' H' v e i' f => post_tSetL i' (postS_mono e _ p) f
  | ex x r1 =>
    rw [hd] at p
    exact fun G' H' c dx e i' x => p G' H' s c dx e i' x
  | st => rw [hd] at p; exact p
end

/-! ### targets -/
abbrev Tg := PyData → List Sl → Option (List Sl)
abbrev Tgs := List PyData → List Sl → Option (List Sl)
/-- outside the names ns two states are alike -/
def Like (ns : List Nat) (s s' : L2.St) : Prop := s'.length = s.length ∧ ∀ j, j ∉ ns → s'[j]? = s[j]?
def rdG (K : PySem.W.Frag) (TG : List TbK) (ns : List Nat) (T : Tg) : L2.TG := fun v s H Q => ∃ B F G0 G r d r', SR K TG B F G0 G H r s ∧ Rv K G d v ∧ T d r = some r' ∧ ∀ G' H' s', Same G G' → SR K TG B F G0 G' H' r' s' → Like ns s s' → Q s' H'
def rdGs (K : PySem.W.Frag) (TG : List TbK) (ns : List Nat) (T : Tgs) : L2.TGs := fun vs s H Q => ∃ B F G0 G r ds r', SR K TG B F G0 G H r s ∧ RvA K G ds vs ∧ T ds r = some r' ∧ ∀ G' H' s', Same G G' → SR K TG B F G0 G' H' r' s' → Like ns s s' → Q s' H'
def DG (X : Cx) (TG : List TbK) (tg : Expr) (ns : List Nat) (T : Tg) : Prop := PG X tg (rdG X.K TG ns T)
def DGs (X : Cx) (TG : List TbK) (tg : List Expr) (ns : List Nat) (T : Tgs) : Prop := PGs X tg (rdGs X.K TG ns T)
def gN (i : Nat) : Tg := fun x r => match r[i]? with
  | some (.io _) => none
  | some _ => some (r.set i (.v x))
  | none => none
def gT (T : Tgs) : Tg
  | .tuple ds, r => T ds r
  | _, _ => none
def gsN : Tgs
  | [], r => some r
  | _, _ => none
def gsC (T : Tg) (U : Tgs) : Tgs
  | d :: ds, r => (T d r).bind (U ds)
  | [], _ => none
/-- how many names a target tuple has -/
def gLen (n : Nat) (T : Tgs) : Tgs := fun ds r => if ds.length = n then T ds r else none
theorem PG_imp {X : Cx} {tg : Expr} {t t' : L2.TG} (h : PG X tg t) (w : ∀ v s H Q, t' v s H Q → t v s H Q) : PG X tg t' := ⟨fun pins s σ H v u Q I r q => h.run pins s σ H v u Q I r (w _ _ _ _ q)⟩
theorem PGs_imp {X : Cx} {tg : List Expr} {t t' : L2.TGs} (h : PGs X tg t) (w : ∀ v s H Q, t' v s H Q → t v s H Q) : PGs X tg t' := ⟨fun pins s σ H v u Q I r q => h.run pins s σ H v u Q I r (w _ _ _ _ q)⟩
section
variable {X : Cx} {TG : List TbK} {tg : Expr} {tgs : List Expr} {T : Tg} {U : Tgs} {ns ms : List Nat} {pos : Pos}
theorem Like.refl (ns : List Nat) (s : L2.St) : Like ns s s := ⟨rfl, fun _ _ => rfl⟩
theorem Like.one (i : Nat) (s : L2.St) (x : Option V) : Like [i] s (s.set i x) := ⟨List.length_set, fun j h => List.getElem?_set_ne (fun e => h (by rw [e]; exact List.mem_singleton_self _))⟩
theorem Like.trans {ns ms : List Nat} {s t u : L2.St} (a : Like ns s t) (b : Like ms t u) : Like (ns ++ ms) s u := ⟨b.1.trans a.1, fun j h => by
  rw [List.mem_append, not_or] at h
  rw [b.2 j h.2, a.2 j h.1]⟩
theorem dg_name {i : Nat} (h : PG X tg (gName i)) : DG X TG tg [i] (gN i) := PG_imp h fun v s H Q q => by
  obtain ⟨B, F, G0, G, r, d, r', ir, hv, ht, p⟩ := q
  unfold gN at ht
  cases h : r[i]? with
  | none => rw [h] at ht; cases ht
  | some y =>
    have hj : i < r.length := (List.getElem?_eq_some_iff.mp h).1
    rw [h] at ht
    cases y with
    | io _ => cases ht
    | un => cases ht; exact p G H _ (.refl _) (ir.setv hj (fun ds z => by rw [h] at z; cases z) hv) (.one _ _ _)
    | v _ => cases ht; exact p G H _ (.refl _) (ir.setv hj (fun ds z => by rw [h] at z; cases z) hv) (.one _ _ _)
    | l _ => cases ht; exact p G H _ (.refl _) (ir.setv hj (fun ds z => by rw [h] at z; cases z) hv) (.one _ _ _)
theorem dgs_nil : DGs X TG [] [] gsN := PGs_imp pgs_nil fun v s H Q q => by
  obtain ⟨B, F, G0, G, r, ds, r', ir, hv, ht, p⟩ := q
  cases ds with
  | nil => cases ht; exact ⟨hv, p G H s (.refl _) ir (.refl _ _)⟩
  | cons d ds => cases ht
theorem dgs_cons (h1 : DG X TG tg ns T) (h2 : DGs X TG tgs ms U) (hs : (assignEach (tg :: tgs) X.env).map (·.2) = assign tg X.env :: (assignEach tgs X.env).map (·.2) := by rfl) : DGs X TG (tg :: tgs) (ns ++ ms) (gsC T U) := PGs_imp (pgs_cons h1 h2 hs) fun v s H Q q => by
  obtain ⟨B, F, G0, G, r, ds, r', ir, hv, ht, p⟩ := q
  cases ds with
  | nil => cases ht
  | cons d ds =>
    obtain ⟨x, xs, e, v1, v2⟩ := hv
    subst e
    have ht : (T d r).bind (U ds) = some r' := ht
    cases hq : T d r with
    | none => rw [hq] at ht; cases ht
    | some r1 =>
      rw [hq] at ht
      exact ⟨x, xs, rfl, B, F, G0, G, r, d, r1, ir, v1, hq, fun G' H' s' e i' l => ⟨B, F, G0, G', r1, ds, r', i', RvA.mono e _ _ v2, ht, fun G2 H2 s2 e2 i2 l2 => p G2 H2 s2 (e.trans e2) i2 (l.trans l2)⟩⟩
theorem dg_tup {n k : Nat} (hc : X.calm = true) (h : DGs X TG tgs ns U) (hn : (assignEach tgs X.env).length = n := by rfl) (hst : (assignEach tgs X.env).findIdx? (·.1) = none := by rfl) : DG X TG (.Tuple tgs k pos) ns (gT (gLen n U)) :=
  PG_imp (pg_tup (n := n) hc h hn hst) fun v s H Q q => by
    obtain ⟨B, F, G0, G, r, d, r', ir, hv, ht, p⟩ := q
    cases d with
    | tuple ds =>
      obtain ⟨a, xs, e, h1, h2⟩ := hv
      subst e
      have ht : (if ds.length = n then U ds r else none) = some r' := ht
      split at ht
      · rename_i hz
        exact ⟨a, xs, rfl, same_t ir.gh h1, by rw [h2.len]; exact hz, B, F, G0, G, r, ds, r', ir, h2, ht, p⟩
      · cases ht
    | none => cases ht
    | bool _ => cases ht
    | int _ => cases ht
    | str _ => cases ht
    | list _ => cases ht
    | dict _ => cases ht
def tAsgG (T : Tg) (x : PyData) : M Fl := fun r => match T x r with
  | some r' => .ok .nx r'
  | none => .st
def sAsg (d : M PyData) (T : Tg) : M Fl := d.bind (tAsgG T)
theorem ds_asg {W : WX} {st : Stmt} {d : M PyData} {te : TE} (h : PS X st (tAsg te (rdG X.K TG ns T))) (w : ∀ s H Q, rd X.K TG W (RE X.K) d s H Q → te s H Q) : DS X TG W st (sAsg d T) := PS_imp h fun D s H q => by
  refine w s H _ ?_
  obtain ⟨B, F, G0, G, r, i, p⟩ := rdS_bind (R := RE X.K) q
  refine ⟨B, F, G0, G, r, i, post_imp (fun x H1 q => ?_) _ p⟩
  obtain ⟨B, F, G0, G1, r1, a, i1, v1, p1⟩ := q
  unfold tAsgG at p1
  cases ht : T a r1 with
  | none => rw [ht] at p1; exact p1.elim
  | some r2 =>
    rw [ht] at p1
    exact ⟨B, F, G0, G1, r1, a, r2, i1, v1, ht, fun G' H' s' e i' _ => p1 G' H' s' e i'⟩
end
end TW

end
section
namespace TW
open PySem PySem.Spec PyProof.Rows L2

/-! ### what is walked -/
structure ItOk (K : PySem.W.Frag) (G : Hp) (ds : List PyData) (J : It) : Prop where
  go : ∀ i H, Same G H → i < ds.length → J.go i H
  stop : ∀ H, Same G H → J.stop ds.length H
  yld : ∀ i H x H' G1, Same G G1 → Same G1 H → i < ds.length → J.yld i H x H' → ∃ d G2, ds[i]? = some d ∧ Grow G1 H G2 H' ∧ Rv K G2 d x
section
variable (K : PySem.W.Frag) (TG : List TbK) (W : WX)
def postI (B : List (Nat × Addr)) (F G0 G : Hp) (s : L2.St) (R : It → Hp → Prop) : Res (List PyData) → Prop
  | .ok ds r => ∀ G' H' J, Same G G' → SR K TG B F G0 G' H' r s → ItOk K G' ds J → R J H'
  | .ex e r => ∀ G' H' c dx, Same G G' → SR K TG B F G0 G' H' r s → ExR K G' e c dx → W c dx s H'
  | .st => False
def rdI (d : M (List PyData)) : TI := fun s H R => ∃ B F G0 G r, SR K TG B F G0 G H r s ∧ postI K TG W B F G0 G s R (d r)
end
def DI (X : Cx) (TG : List TbK) (W : WX) (tg e : Expr) (d : M (List PyData)) : Prop := PI X tg e (rdI X.K TG W d)
theorem PI_imp {X : Cx} {tg e : Expr} {t t' : TI} (h : PI X tg e t) (w : ∀ s H R, t' s H R → t s H R) : PI X tg e t' := ⟨fun pins s σ H R I q => h.run pins s σ H R I (w _ _ _ q)⟩
theorem PI_or {X : Cx} {tg e : Expr} {t u : TI} (h : PI X tg e t) (h2 : PI X tg e u) : PI X tg e (fun s H R => t s H R ∨ u s H R) := ⟨fun pins s σ H R I q => q.elim (h.run pins s σ H R I) (h2.run pins s σ H R I)⟩
section
variable {K : PySem.W.Frag} {G : Hp}
theorem it_list {a : Addr} {xs : List V} {ds : List PyData} (h : G a = some (HO.lst xs)) (v : RvA K G ds xs) : ItOk K G ds (Itl K a) where
  go := fun i H e hi => by
    obtain ⟨x, h1, _⟩ := v.at (List.getElem?_eq_getElem hi)
    exact ⟨xs, x, same_l e h, h1⟩
  stop := fun H e => ⟨xs, same_l e h, by rw [v.len]; exact Nat.le_refl _⟩
  yld := fun i H x H' G1 e1 e2 hi y => by
    obtain ⟨rfl, y⟩ := y
    obtain ⟨d, h1, h2⟩ := v.at' (y xs (same_l (e1.trans e2) h))
    exact ⟨d, G1, h1, Grow.refl e2, Rv.mono e1 _ _ h2⟩
theorem it_tup {a : Addr} {xs : List V} {ds : List PyData} (h : SqT K G a xs) (v : RvA K G ds xs) : ItOk K G ds (Itt K a) where
  go := fun i H e hi => by
    obtain ⟨x, h1, _⟩ := v.at (List.getElem?_eq_getElem hi)
    exact ⟨xs, x, same_t e h, h1⟩
  stop := fun H e => ⟨xs, same_t e h, by rw [v.len]; exact Nat.le_refl _⟩
  yld := fun i H x H' G1 e1 e2 hi y => by
    obtain ⟨rfl, y⟩ := y
    obtain ⟨d, h1, h2⟩ := v.at' (y xs (same_t (e1.trans e2) h))
    exact ⟨d, G1, h1, Grow.refl e2, Rv.mono e1 _ _ h2⟩
def rangeD (lo : Int) (n : Nat) : List PyData := (List.range n).map fun (i : Nat) => PyData.int (lo + (i : Int))
theorem rangeD_len (lo : Int) (n : Nat) : (rangeD lo n).length = n := by simp [rangeD]
theorem it_range {lo : Int} {n : Nat} : ItOk K G (rangeD lo n) (Itr lo n) where
  go := fun i H _ hi => by rw [rangeD_len] at hi; exact hi
  stop := fun H _ => by rw [rangeD_len]; exact Nat.le_refl _
  yld := fun i H x H' G1 e1 e2 hi y => by
    obtain ⟨rfl, rfl⟩ := y
    rw [rangeD_len] at hi
    exact ⟨.int (lo + (i : Int)), G1, by simp [rangeD, hi], Grow.refl e2, rfl⟩
end
/-- the items of a list or a tuple -/
def items : PyData → M (List PyData)
  | .list ds => .ret ds
  | .tuple ds => .ret ds
  | _ => .st
def iSeq (d : M PyData) : M (List PyData) := d.bind items
def iRange1 : List PyData → M (List PyData)
  | [.int j] => if -(2 ^ 62) ≤ j ∧ j < 2 ^ 62 then .ret (rangeD 0 j.toNat) else .st
  | _ => .st
def iRange2 : List PyData → M (List PyData)
  | [.int i, .int j] => if -(2 ^ 62) ≤ i ∧ i < 2 ^ 62 ∧ -(2 ^ 62) ≤ j ∧ j < 2 ^ 62 then .ret (rangeD i (j - i).toNat) else .st
  | _ => .st
def iZip : List PyData → M (List PyData)
  | [.list xs, .list ys] => .ret ((xs.zip ys).map fun p => .tuple [p.1, p.2])
  | [.tuple xs, .tuple ys] => .ret ((xs.zip ys).map fun p => .tuple [p.1, p.2])
  | _ => .st
def enumD (ds : List PyData) : List PyData := (ds.zipIdx).map fun p => .tuple [.int (p.2 : Int), p.1]
def iEnumL : List PyData → M (List PyData)
  | [.list xs] => .ret (enumD xs)
  | _ => .st
section
variable {X : Cx} {TG : List TbK} {W : WX} {tg e e2 : Expr} {d : M PyData} {r : M (List Arg)} {p pos tpos : Pos}
theorem rdI_bind {K : PySem.W.Frag} {α β : Type} {R1 : RL α β} {d : M α} {k : α → M (List PyData)} {s : L2.St} {H : Hp} {R : It → Hp → Prop} (h : rdI K TG W (d.bind k) s H R) :
    rd K TG W R1 d s H (fun b H1 => ∃ B F G0 G1 r1 a, SR K TG B F G0 G1 H1 r1 s ∧ R1 G1 a b ∧ postI K TG W B F G0 G1 s R (k a r1)) := by
  obtain ⟨B, F, G0, G, z, i, p⟩ := h
  refine ⟨B, F, G0, G, z, i, ?_⟩
  unfold M.bind at p
  cases hr : d z with
  | ok a r1 =>
    rw [hr] at p
    intro G' H' b e i' v
    refine ⟨B, F, G0, G', r1, a, i', v, ?_⟩
    have p : postI K TG W B F G0 G s R (k a r1) := p
    cases hk : k a r1 with
    | ok ds r2 => rw [hk] at p; exact fun G2 H2 J e2 => p G2 H2 J (e.trans e2)
    | ex x r2 => rw [hk] at p; exact fun G2 H2 c dx e2 => p G2 H2 c dx (e.trans e2)
    | st => rw [hk] at p; exact p
  | ex x r1 => rw [hr] at p; exact p
  | st => rw [hr] at p; exact p
theorem di_seq (h : DE X TG W e d) : DI X TG W tg e (iSeq d) := PI_imp (PI_or (pi_list (tg := tg) h) (pi_tup (tg := tg) h)) fun s H R q => by
  obtain ⟨B, F, G0, G, z, i, p⟩ := q
  unfold iSeq M.bind at p
  cases hr : d z with
  | ok a r1 =>
    rw [hr] at p
    have p : postI X.K TG W B F G0 G s R (items a r1) := p
    cases a with
    | list ds =>
      refine .inl ⟨B, F, G0, G, z, i, ?_⟩
      rw [hr]
      intro G' H' b e' i' v
      obtain ⟨c, xs, h1, h2, h3⟩ := v
      exact ⟨c, h1, ⟨xs, same_l i'.gh h2⟩, p G' H' _ e' i' (it_list h2 h3)⟩
    | tuple ds =>
      refine .inr ⟨B, F, G0, G, z, i, ?_⟩
      rw [hr]
      intro G' H' b e' i' v
      obtain ⟨c, xs, h1, h2, h3⟩ := v
      exact ⟨c, h1, ⟨xs, same_t i'.gh h2⟩, p G' H' _ e' i' (it_tup h2 h3)⟩
    | none => exact p.elim
    | bool _ => exact p.elim
    | int _ => exact p.elim
    | str _ => exact p.elim
    | dict _ => exact p.elim
  | ex x r1 => rw [hr] at p; exact .inl ⟨B, F, G0, G, z, i, by rw [hr]; exact p⟩
  | st => rw [hr] at p; exact p.elim
/-- what is walked is made of plain arguments -/
theorem rdI_args {k : List PyData → M (List PyData)} {s : L2.St} {H : Hp} {R : It → Hp → Prop} (h : rdI X.K TG W (aBind r k) s H R) :
    rd X.K TG W (RArg X.K s) r s H (fun xs H1 => ∃ B F G0 G1 r1 ds, SR X.K TG B F G0 G1 H1 r1 s ∧ RvA X.K G1 ds xs ∧ postI X.K TG W B F G0 G1 s R (k ds r1)) := by
  obtain ⟨B, F, G0, G, z, i, p⟩ := rdI_bind (R1 := RArg X.K s) h
  refine ⟨B, F, G0, G, z, i, post_imp (fun xs H1 q => ?_) _ p⟩
  obtain ⟨B, F, G0, G1, r1, as, i1, v1, p1⟩ := q
  cases hq : allV as with
  | none => rw [hq] at p1; exact p1.elim
  | some ds => rw [hq] at p1; exact ⟨B, F, G0, G1, r1, ds, i1, allV_rv hq v1, p1⟩
theorem di_range1 (hg : Gl X "range") (hm : X.mg "range" = none) (ha : DA X TG W [e] r) (hs : starEach [e] X.env = [(false, eval e X.env)] := by rfl) : DI X TG W tg (.Call (.Name "range" p) [e] [] pos) (aBind r iRange1) := PI_imp (pi_range1 hg hm ha hs) fun s H R q => by
  obtain ⟨B, F, G0, G, z, i, p⟩ := rdI_args q
  refine ⟨B, F, G0, G, z, i, post_imp (fun xs H1 q => ?_) _ p⟩
  obtain ⟨B, F, G0, G1, r1, ds, i1, v1, p1⟩ := q
  unfold iRange1 at p1
  split at p1
  · rename_i j
    split at p1
    · rename_i hz
      obtain ⟨x, r, rfl, v2, v3⟩ := v1
      cases v2; cases v3
      exact ⟨j, rfl, hz.1, hz.2, p1 G1 H1 _ (.refl _) i1 it_range⟩
    · exact p1.elim
  · exact p1.elim
theorem di_range2 (hg : Gl X "range") (hm : X.mg "range" = none) (ha : DA X TG W [e, e2] r) (hs : starEach [e, e2] X.env = [(false, eval e X.env), (false, eval e2 X.env)] := by rfl) (hs2 : starEach [e2] X.env = [(false, eval e2 X.env)] := by rfl) :
    DI X TG W tg (.Call (.Name "range" p) [e, e2] [] pos) (aBind r iRange2) := PI_imp (pi_range2 hg hm ha hs hs2) fun s H R q => by
  obtain ⟨B, F, G0, G, z, i, p⟩ := rdI_args q
  refine ⟨B, F, G0, G, z, i, post_imp (fun xs H1 q => ?_) _ p⟩
  obtain ⟨B, F, G0, G1, r1, ds, i1, v1, p1⟩ := q
  unfold iRange2 at p1
  split at p1
  · rename_i j k
    split at p1
    · rename_i hz
      obtain ⟨x, r, rfl, v2, y, r', rfl, v3, v4⟩ := v1
      cases v2; cases v3; cases v4
      exact ⟨j, k, rfl, hz, p1 G1 H1 _ (.refl _) i1 it_range⟩
    · exact p1.elim
  · exact p1.elim
theorem pair_yld {K : PySem.W.Frag} {G1 H : Hp} {T : Addr} {x y : V} {d e : PyData} (e2 : Same G1 H) (hT : H T = none) (h1 : Rv K G1 d x) (h2 : Rv K G1 e y) :
    Grow G1 H (upd G1 T (.tup [x, y])) (upd H T (.tup [x, y])) ∧ Rv K (upd G1 T (.tup [x, y])) (.tuple [d, e]) (.ref T) := by
  have g := Grow.new e2 hT (.tup [x, y]) (fun _ z => by cases z)
  exact ⟨g, T, [x, y], rfl, .inl (.inl upd_same), x, [y], rfl, Rv.mono g.g _ _ h1, y, [], rfl, Rv.mono g.g _ _ h2, rfl⟩
theorem it_zip {K : PySem.W.Frag} {G : Hp} {a b : Addr} {xs ys : List V} {ds es : List PyData} (h : G a = some (HO.lst xs)) (h' : G b = some (HO.lst ys)) (v : RvA K G ds xs) (w : RvA K G es ys) : ItOk K G ((ds.zip es).map fun p => .tuple [p.1, p.2]) (Itz K a b) where
  go := fun i H e hi => by
    have hi : i < min ds.length es.length := by simpa using hi
    obtain ⟨x, h1, _⟩ := v.at (List.getElem?_eq_getElem (show i < ds.length by omega))
    obtain ⟨y, h2, _⟩ := w.at (List.getElem?_eq_getElem (show i < es.length by omega))
    exact ⟨xs, ys, x, y, same_l e h, same_l e h', h1, h2⟩
  stop := fun H e => ⟨xs, ys, same_l e h, same_l e h', by rw [v.len, w.len]; simp; omega⟩
  yld := fun i H x H' G1 e1 e2 hi y => by
    obtain ⟨T, x1, x2, rfl, hT, rfl, f1, f2⟩ := y
    obtain ⟨d, d1, d2⟩ := v.at' (f1 xs (same_l (e1.trans e2) h))
    obtain ⟨e, c1, c2⟩ := w.at' (f2 ys (same_l (e1.trans e2) h'))
    obtain ⟨g, rv⟩ := pair_yld e2 hT (Rv.mono e1 _ _ d2) (Rv.mono e1 _ _ c2)
    exact ⟨.tuple [d, e], _, by simp [List.getElem?_zip_eq_some, d1, c1], g, rv⟩
theorem it_zipT {K : PySem.W.Frag} {G : Hp} {a b : Addr} {xs ys : List V} {ds es : List PyData} (h : SqT K G a xs) (h' : SqT K G b ys) (v : RvA K G ds xs) (w : RvA K G es ys) : ItOk K G ((ds.zip es).map fun p => .tuple [p.1, p.2]) (RZ.ItzT K a b) where
  go := fun i H e hi => by
    have hi : i < min ds.length es.length := by simpa using hi
    obtain ⟨x, h1, _⟩ := v.at (List.getElem?_eq_getElem (show i < ds.length by omega))
    obtain ⟨y, h2, _⟩ := w.at (List.getElem?_eq_getElem (show i < es.length by omega))
    exact ⟨xs, ys, x, y, same_t e h, same_t e h', h1, h2⟩
  stop := fun H e => ⟨xs, ys, same_t e h, same_t e h', by rw [v.len, w.len]; simp; omega⟩
  yld := fun i H x H' G1 e1 e2 hi y => by
    obtain ⟨T, x1, x2, rfl, hT, rfl, f1, f2⟩ := y
    obtain ⟨d, d1, d2⟩ := v.at' (f1 xs (same_t (e1.trans e2) h))
    obtain ⟨e, c1, c2⟩ := w.at' (f2 ys (same_t (e1.trans e2) h'))
    obtain ⟨g, rv⟩ := pair_yld e2 hT (Rv.mono e1 _ _ d2) (Rv.mono e1 _ _ c2)
    exact ⟨.tuple [d, e], _, by simp [List.getElem?_zip_eq_some, d1, c1], g, rv⟩
theorem it_enum {K : PySem.W.Frag} {G : Hp} {a : Addr} {xs : List V} {ds : List PyData} (h : G a = some (HO.lst xs)) (v : RvA K G ds xs) : ItOk K G (enumD ds) (Ite K a) where
  go := fun i H e hi => by
    have hi : i < ds.length := by simpa [enumD] using hi
    obtain ⟨x, h1, _⟩ := v.at (List.getElem?_eq_getElem hi)
    exact ⟨xs, x, same_l e h, h1⟩
  stop := fun H e => ⟨xs, same_l e h, by rw [v.len]; simp [enumD]⟩
  yld := fun i H x H' G1 e1 e2 hi y => by
    obtain ⟨T, x1, rfl, hT, rfl, f1⟩ := y
    obtain ⟨d, d1, d2⟩ := v.at' (f1 xs (same_l (e1.trans e2) h))
    obtain ⟨g, rv⟩ := pair_yld e2 hT (show Rv K G1 (.int (i : Nat)) (.int (i : Nat)) from rfl) (Rv.mono e1 _ _ d2)
    exact ⟨_, _, by simp [enumD, d1], g, rv⟩
theorem di_zip {elts : List Expr} {kk : Nat} (hg : Gl X "zip") (hm : X.mg "zip" = none) (ha : DA X TG W [e, e2] r) (hs : starEach [e, e2] X.env = (false, eval e X.env) :: starEach [e2] X.env := by rfl) (hpl : (backTo pos (starEach [e2] X.env)).any (·.1) = false := by rfl) :
    DI X TG W (.Tuple elts kk tpos) (.Call (.Name "zip" p) [e, e2] [] pos) (aBind r iZip) := PI_imp (RZ.pi_zipA hg hm ha hs hpl) fun s H R q => by
  obtain ⟨B, F, G0, G, z, i, p⟩ := rdI_args q
  refine ⟨B, F, G0, G, z, i, post_imp (fun xs H1 q => ?_) _ p⟩
  obtain ⟨B, F, G0, G1, r1, ds, i1, v1, p1⟩ := q
  unfold iZip at p1
  split at p1
  · obtain ⟨x, r, rfl, v2, y, r', rfl, v3, v4⟩ := v1
    obtain ⟨a, xs, rfl, a1, a2⟩ := v2
    obtain ⟨b, ys, rfl, b1, b2⟩ := v3
    cases v4
    exact ⟨a, b, xs, ys, rfl, .inl ⟨same_l i1.gh a1, same_l i1.gh b1, p1 G1 H1 _ (.refl _) i1 (it_zip a1 b1 a2 b2)⟩⟩
  · obtain ⟨x, r, rfl, v2, y, r', rfl, v3, v4⟩ := v1
    obtain ⟨a, xs, rfl, a1, a2⟩ := v2
    obtain ⟨b, ys, rfl, b1, b2⟩ := v3
    cases v4
    exact ⟨a, b, xs, ys, rfl, .inr ⟨same_t i1.gh a1, same_t i1.gh b1, p1 G1 H1 _ (.refl _) i1 (it_zipT a1 b1 a2 b2)⟩⟩
  · exact p1.elim
theorem di_enumL {elts : List Expr} {kk : Nat} (hg : Gl X "enumerate") (hm : X.mg "enumerate" = none) (ha : DA X TG W [e] r) (hs : starEach [e] X.env = [(false, eval e X.env)] := by rfl) :
    DI X TG W (.Tuple elts kk tpos) (.Call (.Name "enumerate" p) [e] [] pos) (aBind r iEnumL) := PI_imp (pi_enum hg hm ha hs) fun s H R q => by
  obtain ⟨B, F, G0, G, z, i, p⟩ := rdI_args q
  refine ⟨B, F, G0, G, z, i, post_imp (fun xs H1 q => ?_) _ p⟩
  obtain ⟨B, F, G0, G1, r1, ds, i1, v1, p1⟩ := q
  unfold iEnumL at p1
  split at p1
  · obtain ⟨x, r, rfl, v2, v4⟩ := v1
    obtain ⟨a, xs, rfl, a1, a2⟩ := v2
    cases v4
    exact ⟨a, xs, rfl, same_l i1.gh a1, p1 G1 H1 _ (.refl _) i1 (it_enum a1 a2)⟩
  · exact p1.elim
end

/-! ### for, while -/
def forF (T : Tg) (b : M Fl) : List PyData → M Fl
  | [] => .ret .nx
  | d :: ds => fun r => match T d r with
    | some r1 => match b r1 with
      | .ok .nx r2 => forF T b ds r2
      | .ok .ct r2 => forF T b ds r2
      | .ok .bk r2 => .ok .nx r2
      | x => x
    | none => .st
def sFor (it : M (List PyData)) (T : Tg) (b : M Fl) : M Fl := it.bind (forF T b)
def whileF (c : M Bool) (b : M Fl) : Nat → M Fl
  | 0 => .st
  | n + 1 => fun r => match c r with
    | .ok true r1 => match b r1 with
      | .ok .nx r2 => whileF c b n r2
      | .ok .ct r2 => whileF c b n r2
      | .ok .bk r2 => .ok .nx r2
      | x => x
    | .ok false r1 => .ok .nx r1
    | .ex e r1 => .ex e r1
    | .st => .st
def FUEL : Nat := 1000000
def sWhile (c : M Bool) (b : M Fl) : M Fl := whileF c b FUEL
section
variable {X : Cx} {TG : List TbK} {W : WX} {tg iter c : Expr} {body : List Stmt} {ns : List Nat} {T : Tg} {b : M Fl} {it : M (List PyData)} {t : M Bool} {pos : Pos}
theorem ds_for (hp : PassesOwn (model X.prog X.w) X.A X.env X.xe) (hc : X.calm = true) (hi : DI X TG W tg iter it) (hg : DG X TG tg ns T) (hb : DSs X TG W body b) (hs : ∀ x, foldedSetIterable iter X.env x = pure x := by intro _; rfl) :
    DS X TG W (.For tg iter body [] pos) (sFor it T b) := PS_imp (ps_for hp hc hi hg hb hs) fun D s H q => by
  obtain ⟨B, F, G0, G, r, i, p⟩ := q
  refine ⟨B, F, G0, G, r, i, ?_⟩
  unfold sFor M.bind at p
  cases hr : it r with
  | st => rw [hr] at p; exact p
  | ex x r1 => rw [hr] at p; exact fun G' H' c dx => p G' H' s c dx
  | ok ds r1 =>
    rw [hr] at p
    have p : postS X.K TG W B F G0 G D (forF T b ds r1) := p
    intro G' H' J e i' ok
    refine ⟨fun i m s' H2 => m = ds.length - i ∧ i ≤ ds.length ∧ ∃ G2 r2, Same G' G2 ∧ SR X.K TG B F G0 G2 H2 r2 s' ∧ postS X.K TG W B F G0 G2 D (forF T b (ds.drop i) r2),
      ⟨ds.length, rfl, Nat.zero_le _, G', r1, .refl _, i', postS_mono e _ p⟩, ?_⟩
    rintro i m s' H2 ⟨rfl, hi, G2, r2, e2, i2, p2⟩
    by_cases hlt : i < ds.length
    · refine .inr ⟨ok.go i H2 (e2.trans i2.gh) hlt, fun s3 H3 => ∃ G3 r3, Same G' G3 ∧ SR X.K TG B F G0 G3 H3 r3 s3 ∧ postS X.K TG W B F G0 G3 D (forF T b (ds.drop (i + 1)) r3),
        fun s3 H3 ⟨G3, r3, h1, h2, h3⟩ => ⟨ds.length - (i + 1), by omega, rfl, hlt, G3, r3, h1, h2, h3⟩, fun x H3 y => ?_⟩
      obtain ⟨d, G3, hd, gr, rv⟩ := ok.yld i H2 x H3 G2 e2 i2.gh hlt y
      have hdrop : ds.drop i = d :: ds.drop (i + 1) := by
        rw [List.drop_eq_getElem_cons hlt]
        rw [List.getElem?_eq_getElem hlt] at hd
        rw [Option.some.inj hd]
      rw [hdrop] at p2
      have p2 : postS X.K TG W B F G0 G2 D (match T d r2 with
        | some r1 => match b r1 with
          | .ok .nx r2 => forF T b (ds.drop (i + 1)) r2
          | .ok .ct r2 => forF T b (ds.drop (i + 1)) r2
          | .ok .bk r2 => .ok .nx r2
          | x => x
        | none => .st) := p2
      cases ht : T d r2 with
      | none => rw [ht] at p2; exact p2.elim
      | some r3 =>
        rw [ht] at p2
        refine ⟨B, F, G0, G3, r2, d, r3, i2.grow gr, rv, ht, fun G4 H4 s4 e4 i4 _ => ⟨B, F, G0, G4, r3, i4, ?_⟩⟩
        have e24 : Same G2 G4 := gr.g.trans e4
        have p2 : postS X.K TG W B F G0 G2 D (match b r3 with
          | .ok .nx r2 => forF T b (ds.drop (i + 1)) r2
          | .ok .ct r2 => forF T b (ds.drop (i + 1)) r2
          | .ok .bk r2 => .ok .nx r2
          | x => x) := p2
        cases hb : b r3 with
        | st => rw [hb] at p2; exact p2
        | ex x r4 => rw [hb] at p2; exact fun G5 H5 s5 c dx e5 => p2 G5 H5 s5 c dx (e24.trans e5)
        | ok f r4 =>
          rw [hb] at p2
          cases f with
          | nx => exact fun G5 H5 s5 e5 i5 => ⟨G5, r4, e2.trans (e24.trans e5), i5, postS_mono (e24.trans e5) _ p2⟩
          | ct => exact fun G5 H5 s5 e5 i5 => ⟨G5, r4, e2.trans (e24.trans e5), i5, postS_mono (e24.trans e5) _ p2⟩
          | bk => exact fun G5 H5 s5 e5 i5 => p2 G5 H5 s5 (e24.trans e5) i5
          | rt x => exact fun G5 H5 s5 e5 i5 => p2 G5 H5 s5 (e24.trans e5) i5
    · have hl : i = ds.length := by omega
      subst hl
      rw [List.drop_length] at p2
      exact .inl ⟨ok.stop H2 (e2.trans i2.gh), p2 G2 H2 s' (.refl _) i2⟩
theorem ds_while (hp : PassesOwn (model X.prog X.w) X.A X.env X.xe) (hc : DT X TG W c t) (hb : DSs X TG W body b) : DS X TG W (.While c body [] pos) (sWhile t b) := PS_imp (ps_while hp hc hb) fun D s H q => by
  obtain ⟨B, F, G0, G, r, i, p⟩ := q
  refine ⟨fun m s H => ∃ G1 r1, SR X.K TG B F G0 G1 H r1 s ∧ postS X.K TG W B F G0 G1 D (whileF t b m r1), ⟨FUEL, G, r, i, p⟩, ?_⟩
  rintro m s1 H1 ⟨G1, r1, i1, p1⟩
  cases m with
  | zero => exact p1.elim
  | succ m =>
    have p1 : postS X.K TG W B F G0 G1 D (match t r1 with
      | .ok true r1 => match b r1 with
        | .ok .nx r2 => whileF t b m r2
        | .ok .ct r2 => whileF t b m r2
        | .ok .bk r2 => .ok .nx r2
        | x => x
      | .ok false r1 => .ok .nx r1
      | .ex e r1 => .ex e r1
      | .st => .st) := p1
    refine ⟨B, F, G0, G1, r1, i1, ?_⟩
    cases ht : t r1 with
    | st => rw [ht] at p1; exact p1
    | ex x r2 => rw [ht] at p1; exact fun G' H' c dx => p1 G' H' s1 c dx
    | ok k r2 =>
      rw [ht] at p1
      intro G2 H2 k' e2 i2 hk
      have hk : k = k' := hk
      subst hk
      cases k with
      | false => exact p1 G2 H2 s1 e2 i2
      | true =>
        refine ⟨fun s3 H3 => ∃ G3 r3, SR X.K TG B F G0 G3 H3 r3 s3 ∧ postS X.K TG W B F G0 G3 D (whileF t b m r3), fun s3 H3 h => ⟨m, Nat.lt_succ_self _, h⟩, B, F, G0, G2, r2, i2, ?_⟩
        have p1 : postS X.K TG W B F G0 G1 D (match b r2 with
          | .ok .nx r2 => whileF t b m r2
          | .ok .ct r2 => whileF t b m r2
          | .ok .bk r2 => .ok .nx r2
          | x => x) := p1
        cases hb : b r2 with
        | st => rw [hb] at p1; exact p1
        | ex x r4 => rw [hb] at p1; exact fun G5 H5 s5 c dx e5 => p1 G5 H5 s5 c dx (e2.trans e5)
        | ok f r4 =>
          rw [hb] at p1
          cases f with
          | nx => exact fun G5 H5 s5 e5 i5 => ⟨G5, r4, i5, postS_mono (e2.trans e5) _ p1⟩
          | ct => exact fun G5 H5 s5 e5 i5 => ⟨G5, r4, i5, postS_mono (e2.trans e5) _ p1⟩
          | bk => exact fun G5 H5 s5 e5 i5 => p1 G5 H5 s5 (e2.trans e5) i5
          | rt x => exact fun G5 H5 s5 e5 i5 => p1 G5 H5 s5 (e2.trans e5) i5
end
end TW

end
section
namespace TW
open PySem PySem.Spec PyProof.Rows L2

/-! ### list comprehensions -/
abbrev W0 : WX := fun _ _ _ _ => False
def wipeR (r : List Sl) : List Nat → List Sl
  | [] => r
  | v :: vs => (wipeR r vs).set v .un
/-- no name of these is given back -/
def noIo (r : List Sl) (own : List Nat) : Bool := own.all fun v => match r[v]? with
  | some (.io _) => false
  | _ => true
def lcF (own : List Nat) (T : Tg) (tt : M Bool) (elt : M PyData) : List PyData → List PyData → M (List PyData)
  | [], acc => .ret acc
  | d :: ds, acc => fun r => if noIo r own then (match T d (wipeR r own) with
    | some r1 => match tt r1 with
      | .ok true r2 => match elt r2 with
        | .ok y r3 => lcF own T tt elt ds (acc ++ [y]) r3
        | _ => .st
      | .ok false r2 => lcF own T tt elt ds acc r2
      | _ => .st
    | none => .st) else .st
/-- behind a block: its own names as before -/
def unwipe (own : List Nat) (r0 r : List Sl) : List Sl := r.mapIdx fun k x => if own.contains k then (match r0[k]? with
  | some (.v d) => .v d
  | _ => .un) else x
def lcB (own : List Nat) (T : Tg) (tt : M Bool) (elt : M PyData) (ds : List PyData) : M (List PyData) := fun r =>
  if ds.length ≤ sizeLine then (match lcF own T tt elt ds [] r with
    | .ok acc r2 => if noIo r2 own then .ok acc (unwipe own r r2) else .st
    | _ => .st) else .st
def lLc (own : List Nat) (it : M (List PyData)) (T : Tg) (tt : M Bool) (elt : M PyData) : M (List PyData) := it.bind (lcB own T tt elt)
def lc2G (own own1 : List Nat) (T : Tg) (tt : M Bool) (it1 : M (List PyData)) (T1 : Tg) (tt1 : M Bool) (elt : M PyData) : List PyData → List PyData → M (List PyData)
  | [], acc => .ret acc
  | d :: ds, acc => fun r => if noIo r own then (match T d (wipeR r own) with
    | some r1 => match tt r1 with
      | .ok true r2 => match it1 r2 with
        | .ok es r3 => if acc.length + es.length ≤ sizeLine then (match lcF own1 T1 tt1 elt es acc r3 with
          | .ok acc2 r4 => lc2G own own1 T tt it1 T1 tt1 elt ds acc2 r4
          | _ => .st) else .st
        | _ => .st
      | .ok false r2 => lc2G own own1 T tt it1 T1 tt1 elt ds acc r2
      | _ => .st
    | none => .st) else .st
def lc2B (own own1 : List Nat) (T : Tg) (tt : M Bool) (it1 : M (List PyData)) (T1 : Tg) (tt1 : M Bool) (elt : M PyData) (ds : List PyData) : M (List PyData) := fun r =>
  match lc2G own own1 T tt it1 T1 tt1 elt ds [] r with
    | .ok acc r2 => if noIo r2 own then .ok acc (unwipe own r r2) else .st
    | _ => .st
def lLc2 (own own1 : List Nat) (it : M (List PyData)) (T : Tg) (tt : M Bool) (it1 : M (List PyData)) (T1 : Tg) (tt1 : M Bool) (elt : M PyData) : M (List PyData) := it.bind (lc2B own own1 T tt it1 T1 tt1 elt)
section
variable {K : PySem.W.Frag} {TG : List TbK} {B : List (Nat × Addr)} {F G0 G H : Hp} {r : List Sl} {s : L2.St}
theorem wipeR_len (r : List Sl) : ∀ vs : List Nat, (wipeR r vs).length = r.length
  | [] => rfl
  | v :: vs => by unfold wipeR; rw [List.length_set, wipeR_len r vs]
/-- a name is forgotten -/
theorem SR.un (i : SR K TG B F G0 G H r s) {j : Nat} (hio : ∀ ds, r[j]? ≠ some (.io ds)) : SR K TG B F G0 G H (r.set j .un) (s.set j none) := by
  by_cases hj : j < r.length
  · refine ⟨by rw [List.length_set, List.length_set]; exact i.len, i.gh, i.fh, i.g0, i.fg, i.gt, i.ft, i.tb, fun k e q => ?_, fun k es q => ?_, fun k l a es es' n q1 q2 e1 => ?_, fun p hp => ?_⟩
    · by_cases e : j = k
      · subst e
        rw [List.getElem?_set_self hj] at q
        cases q
      · rw [List.getElem?_set_ne e] at q ⊢
        exact i.vals k _ q
    · rcases own_set q with ⟨_, z⟩ | ⟨n, z⟩
      · cases z
      · rw [List.getElem?_set_ne n]
        exact i.owns k es z
    · rcases own_set q1 with ⟨_, z⟩ | ⟨n1, z1⟩
      · cases z
      · rcases own_set q2 with ⟨_, z⟩ | ⟨n2, z2⟩
        · cases z
        · rw [List.getElem?_set_ne n1] at e1
          rw [List.getElem?_set_ne n2]
          exact i.sep k l a es es' n z1 z2 e1
    · obtain ⟨⟨es, e1⟩, e2⟩ := i.ios p hp
      have n : j ≠ p.1 := fun e => hio es (by rw [e]; exact e1)
      rw [List.getElem?_set_ne n, List.getElem?_set_ne n]
      exact ⟨⟨es, e1⟩, e2⟩
  · rw [List.set_eq_of_length_le (by omega), List.set_eq_of_length_le (by rw [← i.len]; omega)]
    exact i
theorem wipeR_io {r : List Sl} {j : Nat} {ds : List PyData} : ∀ {vs : List Nat}, (wipeR r vs)[j]? = some (.io ds) → r[j]? = some (.io ds)
  | [], h => h
  | v :: vs, h => by
    unfold wipeR at h
    by_cases e : v = j
    · subst e
      rw [List.getElem?_set_self'] at h
      cases q : (wipeR r vs)[v]? with
      | none => rw [q] at h; simp at h
      | some x => rw [q] at h; simp at h
    · rw [List.getElem?_set_ne e] at h
      exact wipeR_io h
theorem SR.wipe (i : SR K TG B F G0 G H r s) : ∀ {vs : List Nat}, noIo r vs = true → SR K TG B F G0 G H (wipeR r vs) (L2.wipe s vs)
  | [], _ => i
  | v :: vs, h => by
    have h : ((match r[v]? with | some (.io _) => false | _ => true) && noIo r vs) = true := h
    rw [Bool.and_eq_true] at h
    refine (SR.wipe i h.2).un fun ds e => ?_
    have e := wipeR_io e
    rw [e] at h
    exact Bool.false_ne_true h.1
theorem unw_at {vs : List Nat} {r0 r : List Sl} {k : Nat} {x : Sl} (e : (TW.unwipe vs r0 r)[k]? = some x) : (k ∈ vs ∧ x.own = none ∧ (∀ d, x = .v d → r0[k]? = some (.v d))) ∨ (k ∉ vs ∧ r[k]? = some x) := by
  unfold TW.unwipe at e
  rw [List.getElem?_mapIdx] at e
  cases q : r[k]? with
  | none => rw [q] at e; cases e
  | some y =>
    rw [q] at e
    have e : some (if vs.contains k then (match r0[k]? with | some (.v d) => Sl.v d | _ => .un) else y) = some x := e
    by_cases hm : k ∈ vs
    · have hc : vs.contains k = true := by simpa using hm
      rw [if_pos hc] at e
      refine .inl ⟨hm, ?_⟩
      split at e
      · rename_i d hd; cases e; exact ⟨rfl, fun d' z => by cases z; exact hd⟩
      · cases e; exact ⟨rfl, fun d' z => by cases z⟩
    · have hc : ¬ vs.contains k = true := by simpa using hm
      rw [if_neg hc] at e
      cases e
      exact .inr ⟨hm, rfl⟩
theorem unw_out {vs : List Nat} {r0 r : List Sl} {k : Nat} (h : k ∉ vs) : (TW.unwipe vs r0 r)[k]? = r[k]? := by
  unfold TW.unwipe
  rw [List.getElem?_mapIdx]
  have hc : vs.contains k = false := by simpa using h
  cases r[k]? with
  | none => rfl
  | some x => simp [h]
theorem unw_own {vs : List Nat} {r0 r : List Sl} {k : Nat} {es : List PyData} (e : (TW.unwipe vs r0 r)[k]?.bind Sl.own = some es) : k ∉ vs ∧ r[k]?.bind Sl.own = some es := by
  cases q : (TW.unwipe vs r0 r)[k]? with
  | none => rw [q] at e; cases e
  | some x =>
    rw [q] at e
    rcases unw_at q with ⟨_, z, _⟩ | ⟨z1, z2⟩
    · have e : x.own = some es := e
      rw [z] at e; cases e
    · exact ⟨z1, by rw [z2]; exact e⟩
theorem noIo_at {r : List Sl} {vs : List Nat} (h : noIo r vs = true) {k : Nat} {ds : List PyData} (hk : r[k]? = some (.io ds)) : k ∉ vs := fun m => by
  have := (List.all_eq_true.mp h) k m
  rw [hk] at this
  cases this
/-- behind the block -/
theorem SR.unwipe {r0 : List Sl} {vs : List Nat} {s2 : L2.St} (i : SR K TG B F G0 G H r s2) (l : Like vs s s2) (hio : noIo r vs = true) (h : ∀ (v : Nat) (d : PyData), r0[v]? = some (Sl.v d) → ∃ u, s[v]? = some (some u) ∧ Rv K G d u) : SR K TG B F G0 G H (TW.unwipe vs r0 r) s := by
  refine ⟨by unfold TW.unwipe; rw [List.length_mapIdx]; exact i.len.trans l.1, i.gh, i.fh, i.g0, i.fg, i.gt, i.ft, i.tb, fun k d q => ?_, fun k es q => ?_, fun k l' a es es' n q1 q2 e1 => ?_, fun p hp => ?_⟩
  · rcases unw_at q with ⟨_, _, z⟩ | ⟨z1, z2⟩
    · exact h k d (z d rfl)
    · obtain ⟨u, h1, h2⟩ := i.vals k d z2
      rw [l.2 k z1] at h1
      exact ⟨u, h1, h2⟩
  · obtain ⟨n, z⟩ := unw_own q
    obtain ⟨a, xs, h1, h2⟩ := i.owns k es z
    rw [l.2 k n] at h1
    exact ⟨a, xs, h1, h2⟩
  · obtain ⟨n1, z1⟩ := unw_own q1
    obtain ⟨n2, z2⟩ := unw_own q2
    have q := i.sep k l' a es es' n z1 z2
    rw [l.2 k n1, l.2 l' n2] at q
    exact q e1
  · obtain ⟨⟨es, e1⟩, e2⟩ := i.ios p hp
    have e4 := noIo_at hio e1
    rw [l.2 p.1 e4] at e2
    exact ⟨⟨es, by rw [unw_out e4]; exact e1⟩, e2⟩
theorem wipe_set {s s' : L2.St} {vs : List Nat} (l : Like vs s s') : L2.wipe s' vs = L2.wipe s vs := by
  refine List.ext_getElem? fun k => ?_
  have at_ : ∀ (t : L2.St) (vs : List Nat), k ∈ vs → k < t.length → (L2.wipe t vs)[k]? = some none := fun t vs => by
    induction vs with
    | nil => intro h; cases h
    | cons v vs ih =>
      intro h hk
      unfold L2.wipe
      by_cases e : v = k
      · subst e; exact List.getElem?_set_self (by rw [L2.wipe_length]; exact hk)
      · rw [List.getElem?_set_ne e]
        exact ih (by rcases List.mem_cons.mp h with z | z; exact absurd z.symm e; exact z) hk
  by_cases hm : k ∈ vs
  · by_cases hk : k < s.length
    · rw [at_ s vs hm hk, at_ s' vs hm (by rw [l.1]; exact hk)]
    · rw [List.getElem?_eq_none (by rw [L2.wipe_length, l.1]; omega), List.getElem?_eq_none (by rw [L2.wipe_length]; omega)]
  · rw [L2.wipe_out hm, L2.wipe_out hm, l.2 k hm]
theorem wipe_self {s : L2.St} {vs : List Nat} : Like vs s (L2.wipe s vs) := ⟨L2.wipe_length _ _, fun j h => L2.wipe_out h⟩
theorem Like.sub {ns ms : List Nat} {s t : L2.St} (l : Like ns s t) (h : ∀ i ∈ ns, i ∈ ms) : Like ms s t := ⟨l.1, fun j n => l.2 j fun m => n (h j m)⟩
theorem Like.symm {ns : List Nat} {s t : L2.St} (l : Like ns s t) : Like ns t s := ⟨l.1.symm, fun j n => (l.2 j n).symm⟩
/-- a new object, held by the frame: a block's list -/
theorem SR.hold {D : Addr} (i : SR K TG B F G0 G H r s) (hD : H D = none) : SR K TG B (upd F D (.lst [])) G0 G (upd H D (.lst [])) r s := by
  have gD := none_sub i.gh hD
  refine ⟨i.len, i.gh.trans (same_new hD), fun b u q => ?_, i.g0, fun b u q => ?_, i.gt, fun b ps q => ?_, fun P hP => tab_same (same_new hD) (i.tb P hP), i.vals, fun j ds q => ?_, i.sep, i.ios⟩
  · by_cases z : b = D
    · subst z; rw [upd_same] at q ⊢; exact q
    · rw [upd_ne z] at q ⊢; exact i.fh _ _ q
  · have z : b ≠ D := fun e => by subst e; rw [gD] at q; cases q
    rw [upd_ne z]
    exact i.fg b u q
  · by_cases z : b = D
    · subst z; rw [upd_same] at q; cases q
    · rw [upd_ne z] at q; exact i.ft _ _ q
  · obtain ⟨a, xs, h1, h2, h3, h4, h5⟩ := i.owns j ds q
    have z : a ≠ D := fun e => by subst e; rw [hD] at h2; cases h2
    exact ⟨a, xs, h1, by rw [upd_ne z]; exact h2, h3, h4, by rw [upd_ne z]; exact h5⟩
/-- the list at D of the frame, changed -/
theorem SR.held {D : Addr} {xs ys : List V} (i : SR K TG B (upd F D (.lst xs)) G0 G H r s) (gD : G D = none) : SR K TG B (upd F D (.lst ys)) G0 G (upd H D (.lst ys)) r s := by
  have hD : H D = some (.lst xs) := i.fh _ _ upd_same
  refine ⟨i.len, fun b u q => ?_, fun b u q => ?_, i.g0, fun b u q => ?_, i.gt, fun b ps q => ?_, fun P hP => ?_, i.vals, fun j ds q => ?_, i.sep, i.ios⟩
  · have z : b ≠ D := fun e => by subst e; rw [gD] at q; cases q
    rw [upd_ne z]
    exact i.gh _ _ q
  · by_cases z : b = D
    · subst z; rw [upd_same] at q ⊢; exact q
    · rw [upd_ne z] at q ⊢; exact i.fh _ _ (by rw [upd_ne z]; exact q)
  · have z : b ≠ D := fun e => by subst e; rw [gD] at q; cases q
    have := i.fg b u q
    rwa [upd_ne z] at this ⊢
  · by_cases z : b = D
    · subst z; rw [upd_same] at q; cases q
    · rw [upd_ne z] at q; exact i.ft b ps (by rw [upd_ne z]; exact q)
  · exact (i.tb P hP).upd hD (fun _ e => by cases e) (fun _ => by first | exact codeO_lst | exact codeO_dK | (intro e; unfold LamX.CodeO at e; cases e))
  · obtain ⟨a, zs, h1, h2, h3, h4, h5⟩ := i.owns j ds q
    have z : a ≠ D := fun e => by subst e; rw [upd_same] at h5; cases h5
    rw [upd_ne z] at h5
    exact ⟨a, zs, h1, by rw [upd_ne z]; exact h2, h3, h4, by rw [upd_ne z]; exact h5⟩
/-- the frame as it was -/
theorem SR.loose {D : Addr} {xs : List V} (i : SR K TG B (upd F D (.lst xs)) G0 G H r s) (fD : F D = none) : SR K TG B F G0 G H r s := by
  have sub : ∀ b u, F b = some u → upd F D (.lst xs) b = some u := fun b u q => by
    rw [upd_ne (ne_of_none q fD)]
    exact q
  refine ⟨i.len, i.gh, fun b u q => i.fh _ _ (sub b u q), i.g0, fun b u q => ?_, i.gt, fun b ps q => i.ft b ps (sub _ _ q), i.tb, i.vals, fun j ds q => ?_, i.sep, i.ios⟩
  · refine (i.fg b u q).imp (fun z => ?_) id
    cases w : F b with
    | none => rfl
    | some y => rw [sub b y w] at z; cases z
  · obtain ⟨a, zs, h1, h2, h3, h4, h5⟩ := i.owns j ds q
    refine ⟨a, zs, h1, h2, h3, h4, ?_⟩
    cases w : F a with
    | none => rfl
    | some y => rw [sub a y w] at h5; cases h5
/-- D belongs to no part of the values -/
theorem SR.gnone {D : Addr} {xs : List V} (i : SR K TG B (upd F D (.lst xs)) G0 G H r s) (h0 : G0 D = none) : G D = none := by
  cases q : G D with
  | none => rfl
  | some u =>
    rcases i.fg D u q with z | z
    · rw [upd_same] at z; cases z
    · rw [h0] at z; cases z
end
section
variable {K : PySem.W.Frag} {TG : List TbK} {W : WX} {it it1 : M (List PyData)} {T T1 : Tg} {ns ns1 : List Nat} {tt tt1 : M Bool} {elt : M PyData} {own own1 : List Nat}
theorem lcF_cons {d : PyData} {ds acc : List PyData} {r : List Sl} : lcF own T tt elt (d :: ds) acc r = if noIo r own then (match T d (wipeR r own) with
    | some r1 => match tt r1 with
      | .ok true r2 => match elt r2 with
        | .ok y r3 => lcF own T tt elt ds (acc ++ [y]) r3
        | _ => .st
      | .ok false r2 => lcF own T tt elt ds acc r2
      | _ => .st
    | none => .st) else .st := rfl
theorem lcF_grows : ∀ (ds acc : List PyData) (r : List Sl) (out : List PyData) (r' : List Sl), lcF own T tt elt ds acc r = .ok out r' → out.length ≤ acc.length + ds.length
  | [], acc, r, out, r', h => by cases h; simp
  | d :: ds, acc, r, out, r', h => by
    rw [lcF_cons] at h
    split at h
    · split at h
      · split at h
        · split at h
          · have := lcF_grows _ _ _ _ _ h; simp at this ⊢; omega
          · cases h
        · have := lcF_grows _ _ _ _ _ h; simp at this ⊢; omega
        · cases h
      · cases h
    · cases h
/-- one turn of such a loop, whatever comes then: Pv holds behind it -/
theorem lc_turn {B : List (Nat × Addr)} {F G0 G G1 H H1 : Hp} {r : List Sl} {s : L2.St} {D : Addr} {xs : List V} {acc ds : List PyData} {d : PyData} {x : V} {Nx : Hp → Prop} (k : Res (List PyData) → Prop)
    (hns : ∀ i ∈ ns, i ∈ own) (i : SR K TG B (upd F D (.lst xs)) G0 G H r s) (ha : RvA K G acc xs) (h0 : G0 D = none) (hz : acc.length < sizeLine)
    (gr : Grow G H G1 H1) (rv : Rv K G1 d x) (hk : k (lcF own T tt elt (d :: ds) acc r)) (hst : ¬ k .st)
    (hN : ∀ G2 H2 r2 s2 ys acc2, Same G G2 → Like own s s2 → SR K TG B (upd F D (.lst ys)) G0 G2 H2 r2 s2 → RvA K G2 acc2 ys → acc2.length ≤ acc.length + 1 → k (lcF own T tt elt ds acc2 r2) → Nx H2) :
    rdG K TG ns T x (L2.wipe s own) H1 fun σ2 H2 => L2.wipe σ2 own = L2.wipe s own ∧ rd K TG W0 RB tt σ2 H2 fun b H3 =>
      if b = true then rd K TG W0 (RE K) elt σ2 H3 fun y H4 => ∃ acc, H4 D = some (.lst acc) ∧ acc.length < sizeLine ∧ Nx (upd H4 D (.lst (acc ++ [y]))) else Nx H3 := by
  rw [lcF_cons] at hk
  split at hk
  · rename_i hio
    cases ht : T d (wipeR r own) with
    | none => rw [ht] at hk; exact absurd hk hst
    | some r1 =>
      rw [ht] at hk
      refine ⟨B, _, G0, G1, _, d, r1, (i.wipe hio).grow gr, rv, ht, fun G2 H2 s2 e2 i2 l2 => ?_⟩
      have l2 : Like own (L2.wipe s own) s2 := l2.sub hns
      have lk : Like own s s2 := ⟨l2.1.trans wipe_self.1, fun j n => (l2.2 j n).trans (wipe_self.2 j n)⟩
      refine ⟨wipe_set lk, B, _, G0, G2, r1, i2, ?_⟩
      have hk : k (match tt r1 with
        | .ok true r2 => match elt r2 with
          | .ok y r3 => lcF own T tt elt ds (acc ++ [y]) r3
          | _ => .st
        | .ok false r2 => lcF own T tt elt ds acc r2
        | _ => .st) := hk
      have e02 : Same G G2 := gr.g.trans e2
      cases hb : tt r1 with
      | st => rw [hb] at hk; exact absurd hk hst
      | ex _ _ => rw [hb] at hk; exact absurd hk hst
      | ok b r2 =>
        rw [hb] at hk
        intro G3 H3 b' e3 i3 hbb
        have hbb : b = b' := hbb
        subst hbb
        cases b with
        | false => exact hN G3 H3 r2 s2 xs acc (e02.trans e3) lk i3 (RvA.mono (e02.trans e3) _ _ ha) (by omega) hk
        | true =>
          have hk : k (match elt r2 with
            | .ok y r3 => lcF own T tt elt ds (acc ++ [y]) r3
            | _ => .st) := hk
          refine ⟨B, _, G0, G3, r2, i3, ?_⟩
          cases he : elt r2 with
          | st => rw [he] at hk; exact absurd hk hst
          | ex _ _ => rw [he] at hk; exact absurd hk hst
          | ok y r3 =>
            rw [he] at hk
            intro G4 H4 v e4 i4 hv
            have e04 := (e02.trans e3).trans e4
            refine ⟨xs, i4.fh _ _ upd_same, by rw [ha.len]; exact hz, ?_⟩
            exact hN G4 _ r3 s2 (xs ++ [v]) (acc ++ [y]) e04 lk (i4.held (i4.gnone h0)) ((RvA.mono e04 _ _ ha).app (.one hv)) (by simp) hk
  · exact absurd hk hst
theorem rdL_lc {s : L2.St} {H : Hp} {Q : VK} (hns : ∀ i ∈ ns, i ∈ own) (h : rdL K TG W (lLc own it T tt elt) s H Q) :
    tLc (rdI K TG W it) (rdG K TG ns T) (rd K TG W0 RB tt) (rd K TG W0 (RE K) elt) own s H Q := by
  obtain ⟨B, F, G0, G, z, i, p⟩ := h
  refine ⟨B, F, G0, G, z, i, ?_⟩
  unfold lLc M.bind at p
  cases hr : it z with
  | st => rw [hr] at p; exact p
  | ex x r1 => rw [hr] at p; exact p
  | ok ds r1 =>
    rw [hr] at p
    have p : postL K TG W B F G0 G s Q (lcB own T tt elt ds r1) := p
    unfold lcB at p
    split at p
    · rename_i hz
      intro G1 H1 J e1 i1 ok D hD
      have h0 : G0 D = none := none_sub (i1.g0.trans i1.gh) hD
      have fD : F D = none := none_sub i1.fh hD
      let k : Res (List PyData) → Prop := fun x => ∃ out r2, x = .ok out r2 ∧ noIo r2 own = true ∧ ∀ G' H' a, Same G G' → SR K TG B F G0 G' H' (unwipe own r1 r2) s → Free K B F G' H' (unwipe own r1 r2) s a out → Q (.ref a) H'
      have hk : k (lcF own T tt elt ds [] r1) := by
        cases hq : lcF own T tt elt ds [] r1 with
        | ok acc r2 =>
          rw [hq] at p
          have p : postL K TG W B F G0 G s Q (if noIo r2 own then .ok acc (unwipe own r1 r2) else .st) := p
          split at p
          · rename_i hio; exact ⟨acc, r2, rfl, hio, p⟩
          · exact p.elim
        | ex x r2 => rw [hq] at p; exact p.elim
        | st => rw [hq] at p; exact p.elim
      have hst : ¬ k .st := fun ⟨_, _, e, _⟩ => by cases e
      refine ⟨fun i m H2 => m = ds.length - i ∧ i ≤ ds.length ∧ ∃ G2 r2 s2 xs acc, Same G1 G2 ∧ Like own s s2 ∧ SR K TG B (upd F D (.lst xs)) G0 G2 H2 r2 s2 ∧ RvA K G2 acc xs ∧ acc.length ≤ i ∧ k (lcF own T tt elt (ds.drop i) acc r2),
        ⟨ds.length, rfl, Nat.zero_le _, G1, r1, s, [], [], .refl _, .refl _ _, i1.hold hD, rfl, Nat.le_refl _, hk⟩, ?_⟩
      rintro i m H2 ⟨rfl, hi, G2, r2, s2, xs, acc, e2, l2, i2, ha, hl, hk⟩
      have w2 : L2.wipe s2 own = L2.wipe s own := wipe_set l2
      by_cases hlt : i < ds.length
      · refine .inr ⟨ok.go i H2 (e2.trans i2.gh) hlt, fun H3 => ∃ G2 r2 s2 xs acc, Same G1 G2 ∧ Like own s s2 ∧ SR K TG B (upd F D (.lst xs)) G0 G2 H3 r2 s2 ∧ RvA K G2 acc xs ∧ acc.length ≤ i + 1 ∧ k (lcF own T tt elt (ds.drop (i + 1)) acc r2),
          fun H3 h3 => ⟨ds.length - (i + 1), by omega, rfl, hlt, h3⟩, fun x H3 y => ?_⟩
        obtain ⟨d, G3, hd, gr, rv⟩ := ok.yld i H2 x H3 G2 e2 i2.gh hlt y
        have hdrop : ds.drop i = d :: ds.drop (i + 1) := by
          rw [List.drop_eq_getElem_cons hlt]
          rw [List.getElem?_eq_getElem hlt] at hd
          rw [Option.some.inj hd]
        rw [hdrop] at hk
        rw [← w2]
        exact lc_turn k hns i2 ha h0 (by omega) gr rv hk hst fun G4 H4 r4 s4 ys acc4 e4 l4 i4 ha4 hl4 hk4 => ⟨G4, r4, s4, ys, acc4, e2.trans e4, ⟨l4.1.trans l2.1, fun j n => (l4.2 j n).trans (l2.2 j n)⟩, i4, ha4, by omega, hk4⟩
      · have hl : i = ds.length := by omega
        subst hl
        rw [List.drop_length] at hk
        obtain ⟨out, r3, ho, hio, hp⟩ := hk
        cases ho
        refine .inl ⟨ok.stop H2 (e2.trans i2.gh), ?_⟩
        have i3 : SR K TG B F G0 G2 H2 r2 s2 := i2.loose fD
        refine hp G2 H2 D (e1.trans e2) (i3.unwipe l2 hio fun v d q => ?_) ⟨⟨xs, i2.fh _ _ upd_same, ha⟩, i2.gnone h0, fD, fun j es q => ?_⟩
        · obtain ⟨u, h1, h2⟩ := i1.vals v d q
          exact ⟨u, h1, Rv.mono e2 _ _ h2⟩
        · obtain ⟨n, q⟩ := unw_own q
          obtain ⟨a, zs, h1, h2, h3, h4, h5⟩ := i2.owns j es q
          rw [l2.2 j n] at h1
          rw [h1]
          intro e
          cases e
          rw [upd_same] at h5
          cases h5
    · exact p.elim
theorem lc2G_cons {d : PyData} {ds acc : List PyData} {r : List Sl} : lc2G own own1 T tt it1 T1 tt1 elt (d :: ds) acc r = if noIo r own then (match T d (wipeR r own) with
    | some r1 => match tt r1 with
      | .ok true r2 => match it1 r2 with
        | .ok es r3 => if acc.length + es.length ≤ sizeLine then (match lcF own1 T1 tt1 elt es acc r3 with
          | .ok acc2 r4 => lc2G own own1 T tt it1 T1 tt1 elt ds acc2 r4
          | _ => .st) else .st
        | _ => .st
      | .ok false r2 => lc2G own own1 T tt it1 T1 tt1 elt ds acc r2
      | _ => .st
    | none => .st) else .st := rfl
theorem lc2_turn {B : List (Nat × Addr)} {F G0 G G1 H H1 : Hp} {r : List Sl} {s : L2.St} {D : Addr} {xs : List V} {acc ds : List PyData} {d : PyData} {x : V} {Nx : Hp → Prop} (k : Res (List PyData) → Prop)
    (hns : ∀ i ∈ ns, i ∈ own) (hns1 : ∀ i ∈ ns1, i ∈ own1) (hsub : ∀ i ∈ own1, i ∈ own) (i : SR K TG B (upd F D (.lst xs)) G0 G H r s) (ha : RvA K G acc xs) (h0 : G0 D = none)
    (gr : Grow G H G1 H1) (rv : Rv K G1 d x) (hk : k (lc2G own own1 T tt it1 T1 tt1 elt (d :: ds) acc r)) (hst : ¬ k .st)
    (hN : ∀ G2 H2 r2 s2 ys acc2, Same G G2 → Like own s s2 → SR K TG B (upd F D (.lst ys)) G0 G2 H2 r2 s2 → RvA K G2 acc2 ys → k (lc2G own own1 T tt it1 T1 tt1 elt ds acc2 r2) → Nx H2) :
    rdG K TG ns T x (L2.wipe s own) H1 fun σ2 H2 => L2.wipe σ2 own = L2.wipe s own ∧ rd K TG W0 RB tt σ2 H2 fun b H3 =>
    if b = true then rdI K TG W0 it1 σ2 H3 fun J1 H4 => ∃ W1 : Nat → Nat → Hp → Prop, (∃ m, W1 0 m H4) ∧ ∀ j k H, W1 j k H →
      (J1.stop j H ∧ Nx H) ∨ (J1.go j H ∧ ∃ Nx1 : Hp → Prop, (∀ H', Nx1 H' → ∃ k', k' < k ∧ W1 (j + 1) k' H') ∧ ∀ x H', J1.yld j H x H' → rdG K TG ns1 T1 x (L2.wipe σ2 own1) H' fun σ3 H5 => L2.wipe σ3 own1 = L2.wipe σ2 own1 ∧ rd K TG W0 RB tt1 σ3 H5 fun b H6 =>
        if b = true then rd K TG W0 (RE K) elt σ3 H6 fun y H7 => ∃ acc, H7 D = some (.lst acc) ∧ acc.length < sizeLine ∧ Nx1 (upd H7 D (.lst (acc ++ [y]))) else Nx1 H6)
    else Nx H3 := by
  rw [lc2G_cons] at hk
  split at hk
  · rename_i hio
    cases ht : T d (wipeR r own) with
    | none => rw [ht] at hk; exact absurd hk hst
    | some r1 =>
      rw [ht] at hk
      refine ⟨B, _, G0, G1, _, d, r1, (i.wipe hio).grow gr, rv, ht, fun G2 H2 s2 e2 i2 l2 => ?_⟩
      have l2 : Like own (L2.wipe s own) s2 := l2.sub hns
      have lk : Like own s s2 := ⟨l2.1.trans wipe_self.1, fun j n => (l2.2 j n).trans (wipe_self.2 j n)⟩
      refine ⟨wipe_set lk, B, _, G0, G2, r1, i2, ?_⟩
      have hk : k (match tt r1 with
        | .ok true r2 => match it1 r2 with
          | .ok es r3 => if acc.length + es.length ≤ sizeLine then (match lcF own1 T1 tt1 elt es acc r3 with
            | .ok acc2 r4 => lc2G own own1 T tt it1 T1 tt1 elt ds acc2 r4
            | _ => .st) else .st
          | _ => .st
        | .ok false r2 => lc2G own own1 T tt it1 T1 tt1 elt ds acc r2
        | _ => .st) := hk
      have e02 : Same G G2 := gr.g.trans e2
      cases hb : tt r1 with
      | st => rw [hb] at hk; exact absurd hk hst
      | ex _ _ => rw [hb] at hk; exact absurd hk hst
      | ok b r2 =>
        rw [hb] at hk
        intro G3 H3 b' e3 i3 hbb
        have hbb : b = b' := hbb
        subst hbb
        cases b with
        | false => exact hN G3 H3 r2 s2 xs acc (e02.trans e3) lk i3 (RvA.mono (e02.trans e3) _ _ ha) hk
        | true =>
          have hk : k (match it1 r2 with
            | .ok es r3 => if acc.length + es.length ≤ sizeLine then (match lcF own1 T1 tt1 elt es acc r3 with
              | .ok acc2 r4 => lc2G own own1 T tt it1 T1 tt1 elt ds acc2 r4
              | _ => .st) else .st
            | _ => .st) := hk
          refine ⟨B, _, G0, G3, r2, i3, ?_⟩
          cases he : it1 r2 with
          | st => rw [he] at hk; exact absurd hk hst
          | ex _ _ => rw [he] at hk; exact absurd hk hst
          | ok es r3 =>
            rw [he] at hk
            have hk : k (if acc.length + es.length ≤ sizeLine then (match lcF own1 T1 tt1 elt es acc r3 with
              | .ok acc2 r4 => lc2G own own1 T tt it1 T1 tt1 elt ds acc2 r4
              | _ => .st) else .st) := hk
            split at hk
            · rename_i hz
              intro G4 H4 J e4 i4 ok
              have e04 : Same G G4 := (e02.trans e3).trans e4
              let k1 : Res (List PyData) → Prop := fun x => ∃ out r2, x = .ok out r2 ∧ k (lc2G own own1 T tt it1 T1 tt1 elt ds out r2)
              have hk1 : k1 (lcF own1 T1 tt1 elt es acc r3) := by
                cases hq : lcF own1 T1 tt1 elt es acc r3 with
                | ok acc2 r4 => rw [hq] at hk; exact ⟨acc2, r4, rfl, hk⟩
                | ex x r2 => rw [hq] at hk; exact absurd hk hst
                | st => rw [hq] at hk; exact absurd hk hst
              have hst1 : ¬ k1 .st := fun ⟨_, _, e, _⟩ => by cases e
              refine ⟨fun j m H5 => m = es.length - j ∧ j ≤ es.length ∧ ∃ G5 r5 s5 xs5 acc5, Same G4 G5 ∧ Like own1 s2 s5 ∧ SR K TG B (upd F D (.lst xs5)) G0 G5 H5 r5 s5 ∧ RvA K G5 acc5 xs5 ∧ acc5.length ≤ acc.length + j ∧ k1 (lcF own1 T1 tt1 elt (es.drop j) acc5 r5),
                ⟨es.length, rfl, Nat.zero_le _, G4, r3, s2, xs, acc, .refl _, .refl _ _, i4, RvA.mono e04 _ _ ha, Nat.le_refl _, hk1⟩, ?_⟩
              rintro j m H5 ⟨rfl, hj, G5, r5, s5, xs5, acc5, e5, l5, i5, ha5, hl5, hk5⟩
              by_cases hlt : j < es.length
              · refine .inr ⟨ok.go j H5 (e5.trans i5.gh) hlt, fun H6 => ∃ G5 r5 s5 xs5 acc5, Same G4 G5 ∧ Like own1 s2 s5 ∧ SR K TG B (upd F D (.lst xs5)) G0 G5 H6 r5 s5 ∧ RvA K G5 acc5 xs5 ∧ acc5.length ≤ acc.length + (j + 1) ∧ k1 (lcF own1 T1 tt1 elt (es.drop (j + 1)) acc5 r5),
                  fun H6 h6 => ⟨es.length - (j + 1), by omega, rfl, hlt, h6⟩, fun x H6 y => ?_⟩
                obtain ⟨d', G6, hd, gr6, rv6⟩ := ok.yld j H5 x H6 G5 e5 i5.gh hlt y
                have hdrop : es.drop j = d' :: es.drop (j + 1) := by
                  rw [List.drop_eq_getElem_cons hlt]
                  rw [List.getElem?_eq_getElem hlt] at hd
                  rw [Option.some.inj hd]
                rw [hdrop] at hk5
                rw [← wipe_set l5]
                exact lc_turn k1 hns1 i5 ha5 h0 (by omega) gr6 rv6 hk5 hst1 fun G7 H7 r7 s7 ys acc7 e7 l7 i7 ha7 hl7 hk7 => ⟨G7, r7, s7, ys, acc7, e5.trans e7, ⟨l7.1.trans l5.1, fun j n => (l7.2 j n).trans (l5.2 j n)⟩, i7, ha7, by omega, hk7⟩
              · have hl : j = es.length := by omega
                subst hl
                rw [List.drop_length] at hk5
                obtain ⟨out, r6, ho, hp⟩ := hk5
                cases ho
                have l5' : Like own s2 s5 := l5.sub hsub
                exact .inl ⟨ok.stop H5 (e5.trans i5.gh), hN G5 H5 r5 s5 xs5 acc5 (e04.trans e5) ⟨l5'.1.trans lk.1, fun j n => (l5'.2 j n).trans (lk.2 j n)⟩ i5 ha5 hp⟩
            · exact absurd hk hst
  · exact absurd hk hst
theorem rdL_lc2 {s : L2.St} {H : Hp} {Q : VK} (hns : ∀ i ∈ ns, i ∈ own) (hns1 : ∀ i ∈ ns1, i ∈ own1) (hsub : ∀ i ∈ own1, i ∈ own) (h : rdL K TG W (lLc2 own own1 it T tt it1 T1 tt1 elt) s H Q) :
    tLc2 (rdI K TG W it) (rdG K TG ns T) (rd K TG W0 RB tt) (rdI K TG W0 it1) (rdG K TG ns1 T1) (rd K TG W0 RB tt1) (rd K TG W0 (RE K) elt) own own1 s H Q := by
  obtain ⟨B, F, G0, G, z, i, p⟩ := h
  refine ⟨B, F, G0, G, z, i, ?_⟩
  unfold lLc2 M.bind at p
  cases hr : it z with
  | st => rw [hr] at p; exact p
  | ex x r1 => rw [hr] at p; exact p
  | ok ds r1 =>
    rw [hr] at p
    have p : postL K TG W B F G0 G s Q (lc2B own own1 T tt it1 T1 tt1 elt ds r1) := p
    unfold lc2B at p
    intro G1 H1 J e1 i1 ok D hD
    have h0 : G0 D = none := none_sub (i1.g0.trans i1.gh) hD
    have fD : F D = none := none_sub i1.fh hD
    let k : Res (List PyData) → Prop := fun x => ∃ out r2, x = .ok out r2 ∧ noIo r2 own = true ∧ ∀ G' H' a, Same G G' → SR K TG B F G0 G' H' (unwipe own r1 r2) s → Free K B F G' H' (unwipe own r1 r2) s a out → Q (.ref a) H'
    have hk : k (lc2G own own1 T tt it1 T1 tt1 elt ds [] r1) := by
      cases hq : lc2G own own1 T tt it1 T1 tt1 elt ds [] r1 with
      | ok acc r2 =>
        rw [hq] at p
        have p : postL K TG W B F G0 G s Q (if noIo r2 own then .ok acc (unwipe own r1 r2) else .st) := p
        split at p
        · rename_i hio; exact ⟨acc, r2, rfl, hio, p⟩
        · exact p.elim
      | ex x r2 => rw [hq] at p; exact p.elim
      | st => rw [hq] at p; exact p.elim
    have hst : ¬ k .st := fun ⟨_, _, e, _⟩ => by cases e
    refine ⟨fun i m H2 => m = ds.length - i ∧ i ≤ ds.length ∧ ∃ G2 r2 s2 xs acc, Same G1 G2 ∧ Like own s s2 ∧ SR K TG B (upd F D (.lst xs)) G0 G2 H2 r2 s2 ∧ RvA K G2 acc xs ∧ k (lc2G own own1 T tt it1 T1 tt1 elt (ds.drop i) acc r2),
      ⟨ds.length, rfl, Nat.zero_le _, G1, r1, s, [], [], .refl _, .refl _ _, i1.hold hD, rfl, hk⟩, ?_⟩
    rintro i m H2 ⟨rfl, hi, G2, r2, s2, xs, acc, e2, l2, i2, ha, hk⟩
    have w2 : L2.wipe s2 own = L2.wipe s own := wipe_set l2
    by_cases hlt : i < ds.length
    · refine .inr ⟨ok.go i H2 (e2.trans i2.gh) hlt, fun H3 => ∃ G2 r2 s2 xs acc, Same G1 G2 ∧ Like own s s2 ∧ SR K TG B (upd F D (.lst xs)) G0 G2 H3 r2 s2 ∧ RvA K G2 acc xs ∧ k (lc2G own own1 T tt it1 T1 tt1 elt (ds.drop (i + 1)) acc r2),
        fun H3 h3 => ⟨ds.length - (i + 1), by omega, rfl, hlt, h3⟩, fun x H3 y => ?_⟩
      obtain ⟨d, G3, hd, gr, rv⟩ := ok.yld i H2 x H3 G2 e2 i2.gh hlt y
      have hdrop : ds.drop i = d :: ds.drop (i + 1) := by
        rw [List.drop_eq_getElem_cons hlt]
        rw [List.getElem?_eq_getElem hlt] at hd
        rw [Option.some.inj hd]
      rw [hdrop] at hk
      rw [← w2]
      exact lc2_turn k hns hns1 hsub i2 ha h0 gr rv hk hst fun G4 H4 r4 s4 ys acc4 e4 l4 i4 ha4 hk4 => ⟨G4, r4, s4, ys, acc4, e2.trans e4, ⟨l4.1.trans l2.1, fun j n => (l4.2 j n).trans (l2.2 j n)⟩, i4, ha4, hk4⟩
    · have hl : i = ds.length := by omega
      subst hl
      rw [List.drop_length] at hk
      obtain ⟨out, r3, ho, hio, hp⟩ := hk
      cases ho
      refine .inl ⟨ok.stop H2 (e2.trans i2.gh), ?_⟩
      have i3 : SR K TG B F G0 G2 H2 r2 s2 := i2.loose fD
      refine hp G2 H2 D (e1.trans e2) (i3.unwipe l2 hio fun v d q => ?_) ⟨⟨xs, i2.fh _ _ upd_same, ha⟩, i2.gnone h0, fD, fun j es q => ?_⟩
      · obtain ⟨u, h1, h2⟩ := i1.vals v d q
        exact ⟨u, h1, Rv.mono e2 _ _ h2⟩
      · obtain ⟨n, q⟩ := unw_own q
        obtain ⟨a, zs, h1, h2, h3, h4, h5⟩ := i2.owns j es q
        rw [l2.2 j n] at h1
        rw [h1]
        intro e
        cases e
        rw [upd_same] at h5
        cases h5
end
/-! the rules -/
def DTs (X : Cx) (TG : List TbK) (W : WX) (ifs : List Expr) (t : M Bool) : Prop := PTs X ifs (rd X.K TG W RB t)
def tYesD : M Bool := .ret true
section
variable {X : Cx} {TG : List TbK} {W : WX}
theorem dts_nil : DTs X TG W [] tYesD := ⟨fun pins s σ H Q I h => pts_nil.run pins s σ H Q I (rd_ret (b := true) (R := RB) h fun _ => rfl)⟩
theorem dts_one {c : Expr} {t : M Bool} (h : DT X TG W c t) : DTs X TG W [c] t := pts_one h
variable {elt tg iter tg1 iter1 : Expr} {ifs ifs1 : List Expr} {scope : Scope} {own : List (Str × Nat)} {ow1 ns ns1 : List Nat} {pos spos py : Pos} {it it1 : M (List PyData)} {T T1 : Tg} {t t1 : M Bool} {d : M PyData}
theorem dl_lc (hc : X.calm = true) (hN : X.N.Nodup) (hi : DI X TG W tg iter it) (ok : BlkOk X.N X.env.scope scope own)
    (hg : ∀ (s : Shared) (H : Hp) (C : Addr) (cl : List (Str × Addr)) (fp : List Addr), DG (X.blk s H scope (compEnvC scope cl C X.env) fp) TG tg ns T) (ht : ∀ (s : Shared) (H : Hp) (C : Addr) (cl : List (Str × Addr)) (fp : List Addr), DTs (X.blk s H scope (compEnvC scope cl C X.env) fp) TG W0 ifs t)
    (he : ∀ (s : Shared) (H : Hp) (C : Addr) (cl : List (Str × Addr)) (fp : List Addr), DE (X.blk s H scope (compEnvC scope cl C X.env) fp) TG W0 elt d) (hns : ∀ i ∈ ns, i ∈ own.map (·.2) := by decide) (hs : ∀ x, foldedSetIterable iter X.env x = pure x := by intro _; rfl) :
    DL X TG W (.ListComp elt [⟨tg, iter, ifs, 0⟩] scope pos) (lLc (own.map (·.2)) it T t d) := PE_imp (pe_lc (g := rdG X.K TG ns T) (tt := rd X.K TG W0 RB t) (te := rd X.K TG W0 (RE X.K) d) hc hN hi ok hg ht he hs) fun s H Q q => rdL_lc hns q
theorem ds_setLc {i : Nat} {y : Str} (hc : X.calm = true) (hN : X.N.Nodup) (hy : X.N[i]? = some y) (hyl : X.env.scope.names.lookup y = some .local)
    (hsw : swapsWith (.ListComp elt [⟨tg, iter, ifs, 0⟩] scope pos) (some (.Name y py)) spos.line X.env = pure true) (hi : DI X TG W tg iter it) (ok : BlkOk X.N X.env.scope scope own)
    (hg : ∀ (s : Shared) (H : Hp) (C : Addr) (cl : List (Str × Addr)) (fp : List Addr), DG (X.blk s H scope (compEnvC scope cl C X.env) fp) TG tg ns T) (ht : ∀ (s : Shared) (H : Hp) (C : Addr) (cl : List (Str × Addr)) (fp : List Addr), DTs (X.blk s H scope (compEnvC scope cl C X.env) fp) TG W0 ifs t)
    (he : ∀ (s : Shared) (H : Hp) (C : Addr) (cl : List (Str × Addr)) (fp : List Addr), DE (X.blk s H scope (compEnvC scope cl C X.env) fp) TG W0 elt d) (hns : ∀ i ∈ ns, i ∈ own.map (·.2) := by decide) (hs : ∀ x, foldedSetIterable iter X.env x = pure x := by intro _; rfl) :
    DS X TG W (.Assign [.Name y py] (.ListComp elt [⟨tg, iter, ifs, 0⟩] scope pos) spos) (sSetL i (lLc (own.map (·.2)) it T t d)) := ds_setL (ps_setLc (g := rdG X.K TG ns T) (tt := rd X.K TG W0 RB t) (te := rd X.K TG W0 (RE X.K) d) hc hN hy hyl hsw hi ok hg ht he hs) fun s H Q q => rdL_lc hns q
theorem dl_lc2 (hc : X.calm = true) (hN : X.N.Nodup) (hi : DI X TG W tg iter it) (ok : BlkOk X.N X.env.scope scope own)
    (hg : ∀ (s : Shared) (H : Hp) (C : Addr) (cl : List (Str × Addr)) (fp : List Addr), DG (X.blk s H scope (compEnvC scope cl C X.env) fp) TG tg ns T) (ht : ∀ (s : Shared) (H : Hp) (C : Addr) (cl : List (Str × Addr)) (fp : List Addr), DTs (X.blk s H scope (compEnvC scope cl C X.env) fp) TG W0 ifs t)
    (hi1 : ∀ (s : Shared) (H : Hp) (C : Addr) (cl : List (Str × Addr)) (fp : List Addr), DI (X.blk s H scope (compEnvC scope cl C X.env) fp) TG W0 tg1 iter1 it1)
    (hg1 : ∀ (s : Shared) (H : Hp) (C : Addr) (cl : List (Str × Addr)) (fp : List Addr), DG (X.blk s H scope (compEnvC scope cl C X.env) fp) TG tg1 ns1 T1) (ht1 : ∀ (s : Shared) (H : Hp) (C : Addr) (cl : List (Str × Addr)) (fp : List Addr), DTs (X.blk s H scope (compEnvC scope cl C X.env) fp) TG W0 ifs1 t1)
    (he : ∀ (s : Shared) (H : Hp) (C : Addr) (cl : List (Str × Addr)) (fp : List Addr), DE (X.blk s H scope (compEnvC scope cl C X.env) fp) TG W0 elt d) (hns : ∀ i ∈ ns, i ∈ own.map (·.2) := by decide) (hns1 : ∀ i ∈ ns1, i ∈ ow1 := by decide) (hv : ∀ i ∈ ow1, i ∈ own.map (·.2) := by decide) (hs : ∀ x, foldedSetIterable iter X.env x = pure x := by intro _; rfl) (hs1 : ∀ env x, foldedSetIterable iter1 env x = pure x := by intro _ _; rfl) :
    DL X TG W (.ListComp elt [⟨tg, iter, ifs, 0⟩, ⟨tg1, iter1, ifs1, 0⟩] scope pos) (lLc2 (own.map (·.2)) ow1 it T t it1 T1 t1 d) := PE_imp (pe_lc2 (g := rdG X.K TG ns T) (tt := rd X.K TG W0 RB t) (te := rd X.K TG W0 (RE X.K) d) (wi1 := rdI X.K TG W0 it1) (g1 := rdG X.K TG ns1 T1) (tt1 := rd X.K TG W0 RB t1) hc hN hi ok hv hg ht hi1 hg1 ht1 he hs hs1) fun s H Q q => rdL_lc2 hns hns1 hv q
theorem ds_setLc2 {i : Nat} {y : Str} (hc : X.calm = true) (hN : X.N.Nodup) (hy : X.N[i]? = some y) (hyl : X.env.scope.names.lookup y = some .local)
    (hsw : swapsWith (.ListComp elt [⟨tg, iter, ifs, 0⟩, ⟨tg1, iter1, ifs1, 0⟩] scope pos) (some (.Name y py)) spos.line X.env = pure true) (hi : DI X TG W tg iter it) (ok : BlkOk X.N X.env.scope scope own)
    (hg : ∀ (s : Shared) (H : Hp) (C : Addr) (cl : List (Str × Addr)) (fp : List Addr), DG (X.blk s H scope (compEnvC scope cl C X.env) fp) TG tg ns T) (ht : ∀ (s : Shared) (H : Hp) (C : Addr) (cl : List (Str × Addr)) (fp : List Addr), DTs (X.blk s H scope (compEnvC scope cl C X.env) fp) TG W0 ifs t)
    (hi1 : ∀ (s : Shared) (H : Hp) (C : Addr) (cl : List (Str × Addr)) (fp : List Addr), DI (X.blk s H scope (compEnvC scope cl C X.env) fp) TG W0 tg1 iter1 it1)
    (hg1 : ∀ (s : Shared) (H : Hp) (C : Addr) (cl : List (Str × Addr)) (fp : List Addr), DG (X.blk s H scope (compEnvC scope cl C X.env) fp) TG tg1 ns1 T1) (ht1 : ∀ (s : Shared) (H : Hp) (C : Addr) (cl : List (Str × Addr)) (fp : List Addr), DTs (X.blk s H scope (compEnvC scope cl C X.env) fp) TG W0 ifs1 t1)
    (he : ∀ (s : Shared) (H : Hp) (C : Addr) (cl : List (Str × Addr)) (fp : List Addr), DE (X.blk s H scope (compEnvC scope cl C X.env) fp) TG W0 elt d) (hns : ∀ i ∈ ns, i ∈ own.map (·.2) := by decide) (hns1 : ∀ i ∈ ns1, i ∈ ow1 := by decide) (hv : ∀ i ∈ ow1, i ∈ own.map (·.2) := by decide) (hs : ∀ x, foldedSetIterable iter X.env x = pure x := by intro _; rfl) (hs1 : ∀ env x, foldedSetIterable iter1 env x = pure x := by intro _ _; rfl) :
    DS X TG W (.Assign [.Name y py] (.ListComp elt [⟨tg, iter, ifs, 0⟩, ⟨tg1, iter1, ifs1, 0⟩] scope pos) spos) (sSetL i (lLc2 (own.map (·.2)) ow1 it T t it1 T1 t1 d)) := ds_setL (ps_setLc2 (g := rdG X.K TG ns T) (tt := rd X.K TG W0 RB t) (te := rd X.K TG W0 (RE X.K) d) (wi1 := rdI X.K TG W0 it1) (g1 := rdG X.K TG ns1 T1) (tt1 := rd X.K TG W0 RB t1) hc hN hy hyl hsw hi ok hv hg ht hi1 hg1 ht1 he hs hs1) fun s H Q q => rdL_lc2 hns hns1 hv q
end
end TW

end
section
namespace TW
open PySem PySem.Spec PyProof.Rows L2

/-! ### what a def does -/
/-- a def's body at its parameters' slots; the slots behind it are given back -/
def fnOf (n N : Nat) (body : M Fl) : M PyData := fun sl => if sl.length = n then (match body (sl ++ List.replicate (N - n) .un) with
  | .ok (.rt d) r => .ok d r
  | .ok .nx r => .ok .none r
  | .ex e r => .ex e r
  | _ => .st) else .st
section
variable (K : PySem.W.Frag) (TG : List TbK)
def postF (B : List (Nat × Addr)) (F G0 G : Hp) (Q : VK) (E : XK) : Res PyData → Prop
  | .ok d r => ∀ G' H' v s', Same G G' → SR K TG B F G0 G' H' r s' → Rv K G' d v → Q v H'
  | .ex e r => ∀ G' H' c dx s', Same G G' → SR K TG B F G0 G' H' r s' → ExR K G' e c dx → E c dx H'
  | .st => False
/-- the promise of a def -/
def SpOf (n : Nat) (fn : M PyData) : Sp := fun vs H Q E => vs.length = n ∧ ∃ B F G0 G sl, SR K TG B F G0 G H sl (vs.map some) ∧ postF K TG B F G0 G Q E (fn sl)
end
section
variable {K : PySem.W.Frag} {TG : List TbK} {B : List (Nat × Addr)} {F G0 G H : Hp} {r : List Sl} {s : L2.St}
theorem SR.pad (i : SR K TG B F G0 G H r s) (n : Nat) : SR K TG B F G0 G H (r ++ List.replicate n .un) (s ++ List.replicate n none) := by
  have at_ : ∀ (k : Nat) (x : Sl), (r ++ List.replicate n Sl.un)[k]? = some x → x = .un ∨ (k < r.length ∧ r[k]? = some x) := fun k x e => by
    by_cases h : k < r.length
    · rw [List.getElem?_append_left h] at e; exact .inr ⟨h, e⟩
    · rw [List.getElem?_append_right (by omega)] at e
      exact .inl (List.eq_of_mem_replicate (List.mem_of_getElem? e))
  have own_ : ∀ (k : Nat) (es : List PyData), (r ++ List.replicate n Sl.un)[k]?.bind Sl.own = some es → k < s.length ∧ r[k]?.bind Sl.own = some es := fun k es e => by
    cases q : (r ++ List.replicate n Sl.un)[k]? with
    | none => rw [q] at e; cases e
    | some x =>
      rw [q] at e
      rcases at_ k x q with z | ⟨z1, z2⟩
      · subst z; cases e
      · exact ⟨by rw [← i.len]; exact z1, by rw [z2]; exact e⟩
  refine ⟨by simp [i.len], i.gh, i.fh, i.g0, i.fg, i.gt, i.ft, i.tb, fun k d q => ?_, fun k es q => ?_, fun k l a es es' ne q1 q2 e1 => ?_, fun p hp => ?_⟩
  · rcases at_ k _ q with z | ⟨z1, z2⟩
    · cases z
    · rw [List.getElem?_append_left (by rw [← i.len]; exact z1)]
      exact i.vals k d z2
  · obtain ⟨z1, z2⟩ := own_ k es q
    rw [List.getElem?_append_left z1]
    exact i.owns k es z2
  · obtain ⟨z1, z2⟩ := own_ k es q1
    obtain ⟨w1, w2⟩ := own_ l es' q2
    rw [List.getElem?_append_left z1] at e1
    rw [List.getElem?_append_left w1]
    exact i.sep k l a es es' ne z2 w2 e1
  · obtain ⟨⟨es, e1⟩, e2⟩ := i.ios p hp
    have h1 := (List.getElem?_eq_some_iff.mp e1).1
    refine ⟨⟨es, by rw [List.getElem?_append_left h1]; exact e1⟩, ?_⟩
    rw [List.getElem?_append_left (by rw [← i.len]; exact h1)]
    exact e2
end
section
variable {P : Program} {w : World} {K : PySem.W.Frag} {mg : Str → Option Value} {base : Heap} {x qual : Str} {params : Arguments} {body : List Stmt} {scope : Scope} {dvs : List V} {kws : List (Str × V)} {f : Addr} {fd : FuncData} {TG : List TbK}
/-- THE RULE for a def -/
theorem def_ok {N ps : List Str} {k n m : Nat} {b : M Fl} (F : FunD K x qual params body scope dvs kws f fd) (S : FnScope N ps scope) (hn : ps.length = n) (hm : N.length = m)
    (hbody : ∀ (cdv : Value) (A : Around) (outer : List Env) (s : Shared) (H : Hp) (E : XK), Room k (A.deeper (envOfC qual scope s.heap.objs.size f cdv)) →
      DSs (cxOf (L2.CX P w) P w K mg base N qual scope f cdv A outer s H E) TG (fun c dx _ H' => E c dx H') body b) : FnOk P w K mg base (L2.CX P w) (k + 1) f fd ps (SpOf K TG n (fnOf n m b)) := by
  refine F.ok S (fun vs H Q E h => by rw [hn]; exact h.1) fun cdv A outer s H vs Q E hr hsp => ⟨_, hbody cdv A outer s H E hr, ?_⟩
  obtain ⟨hl, B, FF, G0, G, sl, i, p⟩ := hsp
  have el : sl.length = n := by rw [i.len, List.length_map, hl]
  refine ⟨B, FF, G0, G, sl ++ List.replicate (m - n) .un, ?_, ?_⟩
  · have := i.pad (m - n)
    unfold L2.start
    rw [hm, hl]
    exact this
  · unfold fnOf at p
    rw [if_pos el] at p
    cases hb : b (sl ++ List.replicate (m - n) .un) with
    | st => rw [hb] at p; exact p
    | ex e r => rw [hb] at p; exact fun G' H' s c dx e' i' => p G' H' c dx s e' i'
    | ok fl r =>
      rw [hb] at p
      cases fl with
      | nx => exact fun G' H' s e' i' => p G' H' V.non s e' i' rfl
      | rt d => exact fun G' H' s e' i' v hv => p G' H' v s e' i' hv
      | bk => exact p.elim
      | ct => exact p.elim
/-- a def's own air -/
theorem takes_def {CXx : CXT} {N : List Str} {cdv : Value} {A : Around} {outer : List Env} {s : Shared} {H : Hp} {E : XK} : Takes (cxOf (L2.CX P w) P w K mg base N qual scope f cdv A outer s H E) (fun c dx _ H' => E c dx H') := takes_of rfl rfl rfl rfl
theorem passes_def {N : List Str} {cdv : Value} {A : Around} {outer : List Env} {s : Shared} {H : Hp} {E : XK} : PassesOwn (model (cxOf (L2.CX P w) P w K mg base N qual scope f cdv A outer s H E).prog (cxOf (L2.CX P w) P w K mg base N qual scope f cdv A outer s H E).w) (cxOf (L2.CX P w) P w K mg base N qual scope f cdv A outer s H E).A (cxOf (L2.CX P w) P w K mg base N qual scope f cdv A outer s H E).env (cxOf (L2.CX P w) P w K mg base N qual scope f cdv A outer s H E).xe := passes_of rfl
end

/-! ### calls -/
def argsSl (r : List Sl) : List Arg → Option (List Sl)
  | [] => some []
  | .v d :: as => (argsSl r as).map (.v d :: ·)
  | .io i :: as => match r[i]?.bind Sl.own with
    | some ds => (argsSl r as).map (.io ds :: ·)
    | none => none
def ioIx : List Arg → List Nat
  | [] => []
  | .v _ :: as => ioIx as
  | .io i :: as => i :: ioIx as
def backSl (out : List Sl) : List Arg → Nat → List Sl → List Sl
  | [], _, r => r
  | .v _ :: as, j, r => backSl out as (j + 1) r
  | .io i :: as, j, r => backSl out as (j + 1) (match out[j]?, r[i]? with
    | some (.io ds), some x => r.set i (x.put ds)
    | _, _ => r)
def nodupB : List Nat → Bool
  | [] => true
  | x :: xs => !xs.contains x && nodupB xs
def dCall (fn : M PyData) (ra : M (List Arg)) : M PyData := ra.bind fun as r => if nodupB (ioIx as) then (match argsSl r as with
  | some sl => match fn sl with
    | .ok d out => .ok d (backSl out as 0 r)
    | .ex e out => .ex e (backSl out as 0 r)
    | .st => .st
  | none => .st) else .st
section
variable {K : PySem.W.Frag} {TG : List TbK} {B : List (Nat × Addr)} {F G0 G H : Hp} {r : List Sl} {s : L2.St}
theorem back_len {out : List Sl} : ∀ {as : List Arg} {j : Nat} {r : List Sl}, (backSl out as j r).length = r.length
  | [], _, _ => rfl
  | .v _ :: as, j, r => back_len (as := as)
  | .io i :: as, j, r => by
    show (backSl out as (j + 1) _).length = _
    rw [back_len (as := as)]
    split
    · rw [List.length_set]
    · rfl
theorem argsSl_len {r : List Sl} : ∀ {as : List Arg} {sl : List Sl}, argsSl r as = some sl → sl.length = as.length
  | [], sl, h => by cases h; rfl
  | .v d :: as, sl, h => by
    unfold argsSl at h
    cases q : argsSl r as with
    | none => rw [q] at h; cases h
    | some z => rw [q] at h; cases h; simp [argsSl_len q]
  | .io i :: as, sl, h => by
    unfold argsSl at h
    split at h
    · cases q : argsSl r as with
      | none => rw [q] at h; cases h
      | some z => rw [q] at h; cases h; simp [argsSl_len q]
    · cases h
theorem argsSl_at {r : List Sl} : ∀ {as : List Arg} {sl : List Sl} {j : Nat} {x : Sl}, argsSl r as = some sl → sl[j]? = some x →
    (∃ d, as[j]? = some (.v d) ∧ x = .v d) ∨ (∃ i ds, as[j]? = some (.io i) ∧ x = .io ds ∧ r[i]?.bind Sl.own = some ds)
  | [], sl, j, x, h, e => by cases h; simp at e
  | .v d :: as, sl, j, x, h, e => by
    unfold argsSl at h
    cases q : argsSl r as with
    | none => rw [q] at h; cases h
    | some z =>
      rw [q] at h; cases h
      cases j with
      | zero => simp at e; exact .inl ⟨d, rfl, e.symm⟩
      | succ j => simpa using argsSl_at (j := j) q (by simpa using e)
  | .io i :: as, sl, j, x, h, e => by
    unfold argsSl at h
    split at h
    · rename_i ds hds
      cases q : argsSl r as with
      | none => rw [q] at h; cases h
      | some z =>
        rw [q] at h; cases h
        cases j with
        | zero => simp at e; exact .inr ⟨i, ds, rfl, e.symm, hds⟩
        | succ j => simpa using argsSl_at (j := j) q (by simpa using e)
    · cases h
theorem argsSl_io {r : List Sl} : ∀ {as : List Arg} {sl : List Sl} {j i : Nat}, argsSl r as = some sl → as[j]? = some (.io i) → ∃ ds, sl[j]? = some (.io ds) ∧ r[i]?.bind Sl.own = some ds
  | as, sl, j, i, h, e => by
    have hj : j < sl.length := by rw [argsSl_len h]; exact (List.getElem?_eq_some_iff.mp e).1
    rcases argsSl_at h (List.getElem?_eq_getElem hj) with ⟨d, e1, _⟩ | ⟨i', ds, e1, e2, e3⟩
    · rw [e] at e1; cases e1
    · rw [e] at e1; cases e1
      exact ⟨ds, by rw [List.getElem?_eq_getElem hj, e2], e3⟩
theorem rarg_at {as : List Arg} : ∀ {vs : List V} {j : Nat} {v : V}, RArg K s G as vs → vs[j]? = some v → (∃ d, as[j]? = some (.v d) ∧ Rv K G d v) ∨ (∃ i, as[j]? = some (.io i) ∧ s[i]? = some (some v)) := by
  induction as with
  | nil => intro vs j v h e; cases h; simp at e
  | cons a as ih =>
    intro vs j v h e
    cases a with
    | v d =>
      obtain ⟨x, r, rfl, h2, h3⟩ := h
      cases j with
      | zero => simp at e; subst e; exact .inl ⟨d, rfl, h2⟩
      | succ j => simpa using ih h3 (by simpa using e)
    | io i =>
      obtain ⟨x, r, rfl, h2, h3⟩ := h
      cases j with
      | zero => simp at e; subst e; exact .inr ⟨i, rfl, h2⟩
      | succ j => simpa using ih h3 (by simpa using e)
theorem rarg_len {as : List Arg} : ∀ {vs : List V}, RArg K s G as vs → vs.length = as.length := by
  induction as with
  | nil => intro vs h; cases h; rfl
  | cons a as ih =>
    intro vs h
    cases a with
    | v d => obtain ⟨x, r, rfl, h2, h3⟩ := h; simp [ih h3]
    | io i => obtain ⟨x, r, rfl, h2, h3⟩ := h; simp [ih h3]
theorem mem_ioIx {i : Nat} : ∀ {as : List Arg} {j : Nat}, as[j]? = some (.io i) → i ∈ ioIx as
  | [], j, e => by simp at e
  | .v d :: as, 0, e => by cases e
  | .v d :: as, j + 1, e => mem_ioIx (as := as) (j := j) (by simpa using e)
  | .io k :: as, 0, e => by cases e; exact List.mem_cons_self
  | .io k :: as, j + 1, e => List.mem_cons_of_mem _ (mem_ioIx (as := as) (j := j) (by simpa using e))
theorem nd_io {i : Nat} : ∀ {as : List Arg} {j k : Nat}, nodupB (ioIx as) = true → as[j]? = some (.io i) → as[k]? = some (.io i) → j = k
  | [], j, k, _, e, _ => by simp at e
  | .v d :: as, 0, k, _, e, _ => by cases e
  | .v d :: as, j + 1, 0, _, _, e => by cases e
  | .v d :: as, j + 1, k + 1, h, e1, e2 => congrArg (· + 1) (nd_io (as := as) h (by simpa using e1) (by simpa using e2))
  | .io m :: as, 0, 0, _, _, _ => rfl
  | .io m :: as, 0, k + 1, h, e1, e2 => by
    cases e1
    have h : (!(ioIx as).contains i && nodupB (ioIx as)) = true := h
    rw [Bool.and_eq_true] at h
    have := mem_ioIx (as := as) (j := k) (by simpa using e2)
    simp [this] at h
  | .io m :: as, j + 1, 0, h, e1, e2 => by
    cases e2
    have h : (!(ioIx as).contains i && nodupB (ioIx as)) = true := h
    rw [Bool.and_eq_true] at h
    have := mem_ioIx (as := as) (j := j) (by simpa using e1)
    simp [this] at h
  | .io m :: as, j + 1, k + 1, h, e1, e2 => by
    have h : (!(ioIx as).contains m && nodupB (ioIx as)) = true := h
    rw [Bool.and_eq_true] at h
    exact congrArg (· + 1) (nd_io (as := as) h.2 (by simpa using e1) (by simpa using e2))
/-- a slot behind a call: as it was, or an argument's list -/
theorem back_at {out : List Sl} : ∀ {as : List Arg} {j : Nat} {r : List Sl} {k : Nat} {x : Sl}, (∀ (m i : Nat), as[m]? = some (Arg.io i) → ∃ ds : List PyData, out[j + m]? = some (Sl.io ds)) → (backSl out as j r)[k]? = some x →
    ∃ y, r[k]? = some y ∧ ((x = y ∧ ∀ m : Nat, as[m]? ≠ some (Arg.io k)) ∨ ∃ (m : Nat) (ds : List PyData), as[m]? = some (Arg.io k) ∧ out[j + m]? = some (Sl.io ds) ∧ x = y.put ds)
  | [], j, r, k, x, _, e => ⟨x, e, .inl ⟨rfl, fun m h => by simp at h⟩⟩
  | .v d :: as, j, r, k, x, ho, e => by
    obtain ⟨y, h1, h2⟩ := back_at (as := as) (j := j + 1) (r := r) (fun m i h => by
      have := ho (m + 1) i (by simpa using h)
      rwa [show j + (m + 1) = j + 1 + m by omega] at this) e
    refine ⟨y, h1, h2.imp (fun ⟨z1, z2⟩ => ⟨z1, fun m h => ?_⟩) fun ⟨m, ds, z1, z2, z3⟩ => ⟨m + 1, ds, by simpa using z1, by rw [show j + (m + 1) = j + 1 + m by omega]; exact z2, z3⟩⟩
    cases m with
    | zero => simp at h
    | succ m => exact z2 m (by simpa using h)
  | .io i :: as, j, r, k, x, ho, e => by
    obtain ⟨ds0, hd0⟩ := ho 0 i (by simp)
    have hd0 : out[j]? = some (.io ds0) := hd0
    have ho' : ∀ (m i : Nat), as[m]? = some (Arg.io i) → ∃ ds : List PyData, out[j + 1 + m]? = some (Sl.io ds) := fun m i h => by
      have := ho (m + 1) i (by simpa using h)
      rwa [show j + (m + 1) = j + 1 + m by omega] at this
    have e : (backSl out as (j + 1) (match out[j]?, r[i]? with
      | some (.io ds), some x => r.set i (x.put ds)
      | _, _ => r))[k]? = some x := e
    rw [hd0] at e
    have up : ∀ (m : Nat) (ds : List PyData), as[m]? = some (Arg.io k) → out[j + 1 + m]? = some (Sl.io ds) → ((Arg.io i :: as)[m + 1]? = some (.io k) ∧ out[j + (m + 1)]? = some (.io ds)) := fun m ds z1 z2 => ⟨by simpa using z1, by rw [show j + (m + 1) = j + 1 + m by omega]; exact z2⟩
    cases hi : r[i]? with
    | none =>
      rw [hi] at e
      obtain ⟨y, h1, h2⟩ := back_at (as := as) (j := j + 1) ho' e
      have hk : i ≠ k := fun z => by rw [z, h1] at hi; cases hi
      refine ⟨y, h1, h2.imp (fun ⟨z1, z2⟩ => ⟨z1, fun m h => ?_⟩) fun ⟨m, ds, z1, z2, z3⟩ => ⟨m + 1, ds, (up m ds z1 z2).1, (up m ds z1 z2).2, z3⟩⟩
      cases m with
      | zero => simp at h; exact hk h
      | succ m => exact z2 m (by simpa using h)
    | some x0 =>
      rw [hi] at e
      obtain ⟨y, h1, h2⟩ := back_at (as := as) (j := j + 1) ho' e
      by_cases hk : i = k
      · subst hk
        rw [List.getElem?_set_self (List.getElem?_eq_some_iff.mp hi).1] at h1
        cases h1
        refine ⟨x0, hi, .inr ?_⟩
        rcases h2 with ⟨z1, _⟩ | ⟨m, ds, z1, z2, z3⟩
        · exact ⟨0, ds0, by simp, hd0, z1⟩
        · refine ⟨m + 1, ds, (up m ds z1 z2).1, (up m ds z1 z2).2, ?_⟩
          rw [z3]
          cases x0 <;> rfl
      · rw [List.getElem?_set_ne hk] at h1
        refine ⟨y, h1, h2.imp (fun ⟨z1, z2⟩ => ⟨z1, fun m h => ?_⟩) fun ⟨m, ds, z1, z2, z3⟩ => ⟨m + 1, ds, (up m ds z1 z2).1, (up m ds z1 z2).2, z3⟩⟩
        cases m with
        | zero => simp at h; exact hk h
        | succ m => exact z2 m (by simpa using h)
theorem back_un {out : List Sl} : ∀ {as : List Arg} {j : Nat} {r : List Sl} {k : Nat}, (∀ m : Nat, as[m]? ≠ some (Arg.io k)) → (backSl out as j r)[k]? = r[k]?
  | [], j, r, k, _ => rfl
  | .v d :: as, j, r, k, h => back_un (as := as) fun m e => h (m + 1) (by simpa using e)
  | .io i :: as, j, r, k, h => by
    have hk : i ≠ k := fun z => h 0 (by simp [z])
    show (backSl out as (j + 1) _)[k]? = _
    rw [back_un (as := as) fun m e => h (m + 1) (by simpa using e)]
    split
    · rw [List.getElem?_set_ne hk]
    · rfl
/-- the addresses of the lists that are handed over -/
def ioAd (s : L2.St) (as : List Arg) (b : Addr) : Prop := ∃ j i : Nat, as[j]? = some (Arg.io i) ∧ s[i]? = some (some (V.ref b))
open Classical in
noncomputable def calF (H : Hp) (s : L2.St) (as : List Arg) : Hp := fun b => if ioAd s as b then none else match H b with
  | some (.tbl _) => none
  | u => u
noncomputable def calB : List Arg → List V → Nat → List (Nat × Addr)
  | .io _ :: as, .ref a :: vs, j => (j, a) :: calB as vs (j + 1)
  | _ :: as, _ :: vs, j => calB as vs (j + 1)
  | _, _, _ => []
theorem calB_mem : ∀ {as : List Arg} {vs : List V} {j : Nat} {p : Nat × Addr}, p ∈ calB as vs j → ∃ m i : Nat, p.1 = j + m ∧ as[m]? = some (Arg.io i) ∧ vs[m]? = some (V.ref p.2)
  | [], vs, j, p, h => by cases vs <;> simp [calB] at h
  | .v d :: as, [], j, p, h => by simp [calB] at h
  | .io i :: as, [], j, p, h => by simp [calB] at h
  | .v d :: as, x :: vs, j, p, h => by
    have h : p ∈ calB as vs (j + 1) := by cases x <;> exact h
    obtain ⟨m, i, e1, e2, e3⟩ := calB_mem h
    exact ⟨m + 1, i, by omega, by simpa using e2, by simpa using e3⟩
  | .io i :: as, x :: vs, j, p, h => by
    have tail : p ∈ calB as vs (j + 1) → ∃ m i', p.1 = j + m ∧ (Arg.io i :: as)[m]? = some (.io i') ∧ (x :: vs)[m]? = some (.ref p.2) := fun h => by
      obtain ⟨m, i, e1, e2, e3⟩ := calB_mem h
      exact ⟨m + 1, i, by omega, by simpa using e2, by simpa using e3⟩
    cases x with
    | ref a =>
      rcases List.mem_cons.mp (show p ∈ (j, a) :: calB as vs (j + 1) from h) with e | h
      · subst e; exact ⟨0, i, rfl, rfl, rfl⟩
      · exact tail h
    | _ => exact tail h
theorem calB_in : ∀ {as : List Arg} {vs : List V} {j m i : Nat} {a : Addr}, as[m]? = some (.io i) → vs[m]? = some (.ref a) → (j + m, a) ∈ calB as vs j
  | [], vs, j, m, i, a, h, _ => by simp at h
  | b :: as, [], j, m, i, a, _, h => by simp at h
  | b :: as, x :: vs, j, 0, i, a, h1, h2 => by
    simp at h1 h2
    subst h1 h2
    exact List.mem_cons_self
  | b :: as, x :: vs, j, m + 1, i, a, h1, h2 => by
    have z : (j + 1 + m, a) ∈ calB as vs (j + 1) := calB_in (by simpa using h1) (by simpa using h2)
    rw [show j + (m + 1) = j + 1 + m by omega]
    cases b with
    | v d => cases x <;> exact z
    | io i => cases x <;> first | exact List.mem_cons_of_mem _ z | exact z
theorem calF_some {as : List Arg} {b : Addr} {u : HO} (h : calF H s as b = some u) : H b = some u := by
  unfold calF at h
  split at h
  · cases h
  · split at h
    · cases h
    · exact h
theorem calF_in {as : List Arg} {b : Addr} {u : HO} (h : H b = some u) (n : ¬ ioAd s as b) (ht : ∀ ps, u ≠ .tbl ps) : calF H s as b = some u := by
  unfold calF
  rw [if_neg n, h]
  cases u <;> first | rfl | exact absurd rfl (ht _)
theorem calF_io {as : List Arg} {b : Addr} (h : ioAd s as b) : calF H s as b = none := by
  unfold calF
  rw [if_pos h]
theorem io_owned (i : SR K TG B F G0 G H r s) {as : List Arg} {sl : List Sl} (ha : argsSl r as = some sl) {b : Addr} (h : ioAd s as b) : ∃ xs, H b = some (.lst xs) ∧ G b = none ∧ F b = none := by
  obtain ⟨j, k, e1, e2⟩ := h
  obtain ⟨ds, _, e3⟩ := argsSl_io ha e1
  obtain ⟨a, xs, h1, h2, h3, h4, h5⟩ := i.owns k ds e3
  rw [e2] at h1
  cases h1
  exact ⟨xs, h2, h4, h5⟩
/-- the callee's start -/
theorem SR.enter (i : SR K TG B F G0 G H r s) {as : List Arg} {sl : List Sl} {vs : List V} (ha : argsSl r as = some sl) (hv : RArg K s G as vs) (nd : nodupB (ioIx as) = true) : SR K TG (calB as vs 0) (calF H s as) G G H sl (vs.map some) := by
  have own_ : ∀ (j : Nat) (ds : List PyData), sl[j]?.bind Sl.own = some ds → ∃ (k : Nat) (v : V), as[j]? = some (Arg.io k) ∧ r[k]?.bind Sl.own = some ds ∧ vs[j]? = some v ∧ s[k]? = some (some v) := fun j ds q => by
    cases e : sl[j]? with
    | none => rw [e] at q; cases q
    | some x =>
      rw [e] at q
      rcases argsSl_at ha e with ⟨d, _, z⟩ | ⟨k, es, e1, z, e3⟩
      · subst z; cases q
      · subst z; cases q
        have hj : j < vs.length := by rw [rarg_len hv]; exact (List.getElem?_eq_some_iff.mp e1).1
        rcases rarg_at hv (List.getElem?_eq_getElem hj) with ⟨d, w1, _⟩ | ⟨k', w1, w2⟩
        · rw [e1] at w1; cases w1
        · rw [e1] at w1; cases w1
          exact ⟨k, _, e1, e3, List.getElem?_eq_getElem hj, w2⟩
  refine ⟨by rw [argsSl_len ha, List.length_map, rarg_len hv], i.gh, fun b u q => calF_some q, .refl _, fun b u q => .inr q, i.gt, fun b ps q => ?_, i.tb, fun j d q => ?_, fun j ds q => ?_, fun j l a es es' n q1 q2 e1 => ?_, fun p hp => ?_⟩
  · unfold calF at q
    split at q
    · cases q
    · split at q
      · cases q
      · rename_i hh; exact hh ps q
  · rcases argsSl_at ha q with ⟨d', e1, z⟩ | ⟨k, ds, e1, z, _⟩
    · cases z
      have hj : j < vs.length := by rw [rarg_len hv]; exact (List.getElem?_eq_some_iff.mp e1).1
      rcases rarg_at hv (List.getElem?_eq_getElem hj) with ⟨d', w1, w2⟩ | ⟨k', w1, w2⟩
      · rw [e1] at w1; cases w1
        exact ⟨_, by rw [List.getElem?_map, List.getElem?_eq_getElem hj]; rfl, w2⟩
      · rw [e1] at w1; cases w1
    · cases z
  · obtain ⟨k, v, e1, e2, e3, e4⟩ := own_ j ds q
    obtain ⟨a, xs, h1, h2, h3, h4, h5⟩ := i.owns k ds e2
    rw [e4] at h1
    cases h1
    exact ⟨a, xs, by rw [List.getElem?_map, e3]; rfl, h2, h3, h4, calF_io ⟨j, k, e1, e4⟩⟩
  · obtain ⟨k, v, a1, a2, a3, a4⟩ := own_ j es q1
    obtain ⟨k', v', b1, b2, b3, b4⟩ := own_ l es' q2
    rw [List.getElem?_map, a3] at e1
    cases e1
    rw [List.getElem?_map, b3]
    intro z
    cases z
    have nk : k ≠ k' := fun e => n (nd_io nd a1 (by rw [e]; exact b1))
    exact i.sep k k' a es es' nk a2 b2 a4 b4
  · obtain ⟨m, k, e1, e2, e3⟩ := calB_mem hp
    obtain ⟨ds, e4, _⟩ := argsSl_io ha e2
    have e1 : p.1 = m := by omega
    rw [e1]
    exact ⟨⟨ds, e4⟩, by rw [List.getElem?_map, e3]; rfl⟩
/-- back at the caller -/
theorem SR.back (i : SR K TG B F G0 G H r s) {as : List Arg} {sl out : List Sl} {vs : List V} {G1 H1 : Hp} {s1 : L2.St} (ha : argsSl r as = some sl) (hv : RArg K s G as vs) (i1 : SR K TG (calB as vs 0) (calF H s as) G G1 H1 out s1) : SR K TG B F G0 G1 H1 (backSl out as 0 r) s := by
  have hio : ∀ (m k : Nat), as[m]? = some (Arg.io k) → ∃ (a : Addr) (ds : List PyData), s[k]? = some (some (V.ref a)) ∧ out[m]? = some (Sl.io ds) ∧ s1[m]? = some (some (V.ref a)) := fun m k e => by
    obtain ⟨ds, _, e3⟩ := argsSl_io ha e
    obtain ⟨a, xs, h1, _⟩ := i.owns k ds e3
    have hj : m < vs.length := by rw [rarg_len hv]; exact (List.getElem?_eq_some_iff.mp e).1
    have hvm : vs[m]? = some (.ref a) := by
      rcases rarg_at hv (List.getElem?_eq_getElem hj) with ⟨d', w1, w2⟩ | ⟨k', w1, w2⟩
      · rw [e] at w1; cases w1
      · rw [e] at w1; cases w1
        rw [h1] at w2
        rw [List.getElem?_eq_getElem hj]
        exact (Option.some.inj w2).symm
    have hb := calB_in (j := 0) e hvm
    obtain ⟨⟨es, w1⟩, w2⟩ := i1.ios _ hb
    exact ⟨a, es, h1, by simpa using w1, by simpa using w2⟩
  have hio' : ∀ (m k : Nat), as[m]? = some (Arg.io k) → ∃ ds : List PyData, out[0 + m]? = some (Sl.io ds) := fun m k e => by
    obtain ⟨a, ds, _, h, _⟩ := hio m k e
    exact ⟨ds, by rw [Nat.zero_add]; exact h⟩
  have ownB : ∀ (k : Nat) (ds : List PyData), (backSl out as 0 r)[k]?.bind Sl.own = some ds → (∃ es, r[k]?.bind Sl.own = some es) ∧ ((r[k]?.bind Sl.own = some ds ∧ ∀ m : Nat, as[m]? ≠ some (Arg.io k)) ∨ ∃ m : Nat, as[m]? = some (Arg.io k) ∧ out[m]? = some (Sl.io ds)) := fun k ds q => by
    cases e : (backSl out as 0 r)[k]? with
    | none => rw [e] at q; cases q
    | some x =>
      rw [e] at q
      obtain ⟨y, h1, h2⟩ := back_at hio' e
      rcases h2 with ⟨z1, z2⟩ | ⟨m, es, z1, z2, z3⟩
      · subst z1
        have w : r[k]?.bind Sl.own = some ds := by rw [h1]; exact q
        exact ⟨⟨ds, w⟩, .inl ⟨w, z2⟩⟩
      · obtain ⟨es', _, e3⟩ := argsSl_io ha z1
        refine ⟨⟨es', e3⟩, .inr ⟨m, z1, ?_⟩⟩
        subst z3
        have q : (y.put es).own = some ds := q
        rw [put_own] at q
        cases q
        simpa using z2
  have fb : ∀ b u, F b = some u → calF H s as b = some u := fun b u q => calF_in (i.fh _ _ q) (fun h => by
    obtain ⟨_, _, _, f⟩ := io_owned i ha h
    rw [f] at q; cases q) fun ps z => i.ft b ps (by rw [q, z])
  refine ⟨by rw [back_len]; exact i.len, i1.gh, fun b u q => i1.fh _ _ (fb b u q), i.g0.trans i1.g0, fun b u q => ?_, i1.gt, i.ft, i1.tb, fun k d q => ?_, fun k ds q => ?_, fun k l a es es' n q1 q2 e1 => ?_, fun p hp => ?_⟩
  · rcases i1.fg b u q with z | z
    · refine .inl ?_
      cases w : F b with
      | none => rfl
      | some y => rw [fb b y w] at z; cases z
    · exact i.fg b u z
  · obtain ⟨y, h1, h2⟩ := back_at hio' q
    rcases h2 with ⟨z1, _⟩ | ⟨m, es, z1, z2, z3⟩
    · subst z1
      obtain ⟨v, w1, w2⟩ := i.vals k d h1
      exact ⟨v, w1, Rv.mono i1.g0 _ _ w2⟩
    · exfalso
      cases y <;> cases z3
  · obtain ⟨_, h⟩ := ownB k ds q
    rcases h with ⟨h1, h2⟩ | ⟨m, h1, h2⟩
    · obtain ⟨a, xs, w1, w2, w3, w4, w5⟩ := i.owns k ds h1
      have na : ¬ ioAd s as a := fun ⟨j, k', e1, e2⟩ => by
        obtain ⟨es, _, e3⟩ := argsSl_io ha e1
        have nk : k ≠ k' := fun e => h2 j (by rw [e1, e])
        exact i.sep k k' a ds es nk h1 e3 w1 e2
      have wc := calF_in w2 na (fun ps z => by cases z)
      refine ⟨a, xs, w1, i1.fh _ _ wc, RvA.mono i1.g0 _ _ w3, ?_, w5⟩
      cases z : G1 a with
      | none => rfl
      | some u =>
        rcases i1.fg a u z with z | z
        · rw [wc] at z; cases z
        · rw [w4] at z; cases z
    · obtain ⟨a, es, g1, g2, g3⟩ := hio m k h1
      rw [h2] at g2
      cases g2
      obtain ⟨a', xs, w1, w2, w3, w4, w5⟩ := i1.owns m ds (by rw [h2]; rfl)
      rw [g3] at w1
      cases w1
      obtain ⟨_, _, _, f⟩ := io_owned i ha ⟨m, k, h1, g1⟩
      exact ⟨a, xs, g1, w2, w3, w4, f⟩
  · obtain ⟨⟨ds1, h1⟩, _⟩ := ownB k es q1
    obtain ⟨⟨ds2, h2⟩, _⟩ := ownB l es' q2
    exact i.sep k l a ds1 ds2 n h1 h2 e1
  · obtain ⟨⟨ds, e1⟩, e2⟩ := i.ios p hp
    refine ⟨?_, e2⟩
    have hl : p.1 < (backSl out as 0 r).length := by rw [back_len]; exact (List.getElem?_eq_some_iff.mp e1).1
    obtain ⟨y, h1, h2⟩ := back_at hio' (List.getElem?_eq_getElem hl)
    rw [e1] at h1
    cases h1
    rcases h2 with ⟨z, _⟩ | ⟨m, es, z1, z2, z3⟩
    · exact ⟨ds, by rw [List.getElem?_eq_getElem hl, z]⟩
    · exact ⟨es, by rw [List.getElem?_eq_getElem hl, z3]; rfl⟩
end
section
variable {X : Cx} {TG : List TbK} {W : WX} {k n : Nat} {f : Addr} {fd : FuncData} {ps : List Str} {fn : M PyData} {x : Str} {p pos : Pos} {e : Expr} {es : List Expr} {ra : M (List Arg)}
theorem rd_call {s : L2.St} {H : Hp} {Q : VK} (hn : ∀ sl, sl.length ≠ n → fn sl = .st) (h : rd X.K TG W (RE X.K) (dCall fn ra) s H Q) : tCallSD (SpOf X.K TG n fn) [] (WE W) (fun s H Q => rd X.K TG W (RArg X.K s) ra s H Q) s H Q := by
  obtain ⟨B, F, G0, G, z, i, p⟩ := h
  refine ⟨B, F, G0, G, z, i, ?_⟩
  unfold dCall M.bind at p
  cases hr : ra z with
  | st => rw [hr] at p; exact p
  | ex x r1 => rw [hr] at p; exact p
  | ok as r1 =>
    rw [hr] at p
    intro G1 H1 vs e1 i1 hv
    have p : post X.K TG W (RE X.K) B F G0 G s Q (if nodupB (ioIx as) then (match argsSl r1 as with
      | some sl => match fn sl with
        | .ok d out => .ok d (backSl out as 0 r1)
        | .ex e out => .ex e (backSl out as 0 r1)
        | .st => .st
      | none => .st) else .st) := p
    split at p
    · rename_i nd
      cases ha : argsSl r1 as with
      | none => rw [ha] at p; exact p.elim
      | some sl =>
        rw [ha] at p
        have p : post X.K TG W (RE X.K) B F G0 G s Q (match fn sl with
          | .ok d out => .ok d (backSl out as 0 r1)
          | .ex e out => .ex e (backSl out as 0 r1)
          | .st => .st) := p
        rw [List.append_nil]
        have hl : vs.length = n := by
          refine Decidable.byContradiction fun hne => ?_
          rw [hn sl (by rw [argsSl_len ha, ← rarg_len hv]; exact hne)] at p
          exact p
        refine ⟨hl, calB as vs 0, calF H1 s as, G1, G1, sl, i1.enter ha hv nd, ?_⟩
        cases hf : fn sl with
        | st => rw [hf] at p; exact p.elim
        | ok d out => rw [hf] at p; exact fun G2 H2 v s2 e2 i2 hd => p G2 H2 v (e1.trans e2) (i1.back ha hv i2) hd
        | ex x out => rw [hf] at p; exact fun G2 H2 c dx s2 e2 i2 hd => p G2 H2 c dx (e1.trans e2) (i1.back ha hv i2) hd
    · exact p.elim
theorem fnOf_len {n N : Nat} {b : M Fl} (sl : List Sl) (h : sl.length ≠ n) : fnOf n N b sl = .st := by
  unfold fnOf
  rw [if_neg h]
/-- where exceptions go: a call's -/
def Air (X : Cx) (W : WX) : Prop := ∀ σ, PassesAt (L2.CX X.prog X.w) X σ (WE W σ)
theorem Air.of (tk : Takes X W) : Air X W := fun σ => passAt tk σ
theorem Air.none : Air X W0 := fun _ _ _ _ _ _ _ ⟨_, _, _, _, _, _, _, _, _, _, _, _, h⟩ => h.elim
/-- f(e, ..), f a def of ours -/
theorem de_call (F : FnOk X.prog X.w X.K X.mg X.base (L2.CX X.prog X.w) k f fd ps (SpOf X.K TG n fn)) (hn : ∀ sl, sl.length ≠ n → fn sl = .st) (hr : Room k X.A) (hg : Gl X x) (hm : X.mg x = some (.ref f)) (hk : PySem.W.keepIn X.K (.ref f) = true) (hb : Binds X.K fd ps []) (air : Air X W)
    (ha : DA X TG W (e :: es) ra) (hdb : (x == ("__debug__" : Str)) = false := by decide) (he : starEach (e :: es) X.env = (false, eval e X.env) :: starEach es X.env := by rfl) (hpl : (backTo pos (starEach es X.env)).any (·.1) = false := by rfl) :
    DE X TG W (.Call (.Name x p) (e :: es) [] pos) (dCall fn ra) := PE_imp (pe_callSD F hr hg hm hk hb .nil air ha hdb he hpl) fun s H Q q => rd_call hn q
theorem de_call0 (F : FnOk X.prog X.w X.K X.mg X.base (L2.CX X.prog X.w) k f fd ps (SpOf X.K TG n fn)) (hn : ∀ sl, sl.length ≠ n → fn sl = .st) (hr : Room k X.A) (hg : Gl X x) (hm : X.mg x = some (.ref f)) (hk : PySem.W.keepIn X.K (.ref f) = true) (hb : Binds X.K fd ps []) (air : Air X W)
    (hdb : (x == ("__debug__" : Str)) = false := by decide) : DE X TG W (.Call (.Name x p) [] [] pos) (dCall fn aNil) := by
  refine ⟨fun pins s σ H Q I h => ?_⟩
  have h := rd_call hn h
  refine wpAny_Call_Name_kw (ld_glob I hg hm ?_ hdb)
  refine PySem.W.callWith_K0 I.kIn hk (run_fnSD (us := []) (vs := []) F hr hb .nil (air σ) I .nil ?_)
  exact rd_ret (a := ([] : List Arg)) (b := ([] : List V)) (R := RArg X.K σ) h fun _ => rfl
end
end TW

end
section
namespace TW
open PySem PySem.Spec PyProof.Rows L2

/-! ### values or new lists -/
inductive Rz where
  | v (d : PyData)
  | l (ds : List PyData)
section
variable (K : PySem.W.Frag) (TG : List TbK) (W : WX)
def postX (B : List (Nat × Addr)) (F G0 G : Hp) (s : L2.St) (Q : VK) : Res Rz → Prop
  | .ok (.v d) r => ∀ G' H' v, Same G G' → SR K TG B F G0 G' H' r s → Rv K G' d v → Q v H'
  | .ok (.l ds) r => ∀ G' H' a, Same G G' → SR K TG B F G0 G' H' r s → Free K B F G' H' r s a ds → Q (.ref a) H'
  | .ex e r => ∀ G' H' c dx, Same G G' → SR K TG B F G0 G' H' r s → ExR K G' e c dx → W c dx s H'
  | .st => False
def rdX (d : M Rz) : TE := fun s H Q => ∃ B F G0 G r, SR K TG B F G0 G H r s ∧ postX K TG W B F G0 G s Q (d r)
end
def DX (X : Cx) (TG : List TbK) (W : WX) (e : Expr) (d : M Rz) : Prop := PE X e (rdX X.K TG W d)
def xV (d : M PyData) : M Rz := d.bind fun x => .ret (.v x)
def xL (d : M (List PyData)) : M Rz := d.bind fun x => .ret (.l x)
/-- a new list as a value -/
def dFx (d : M Rz) : M PyData := d.bind fun x => match x with
  | .v d => .ret d
  | .l ds => .ret (.list ds)
def tSetX (i : Nat) : Rz → M Fl
  | .v x => tSet i x
  | .l xs => tSetL i xs
def sSetX (i : Nat) (d : M Rz) : M Fl := d.bind (tSetX i)
section
variable {K : PySem.W.Frag} {TG : List TbK} {W : WX} {B : List (Nat × Addr)} {F G0 G G1 : Hp} {s : L2.St} {H : Hp} {Q Q' : VK}
theorem postX_mono (e : Same G G1) : ∀ (x : Res Rz), postX K TG W B F G0 G s Q x → postX K TG W B F G0 G1 s Q x
  | .ok (.v d) r, h => fun G' H' b e' => h G' H' b (e.trans e')
  | .ok (.l d) r, h => fun G' H' b e' => h G' H' b (e.trans e')
  | .ex x r, h => fun G' H' c dx e' => h G' H' c dx (e.trans e')
  | .st, h => h
/-- two in a row -/
theorem rdX_bind {α β : Type} {R1 : RL α β} {d : M α} {k : α → M Rz} (h : rdX K TG W (d.bind k) s H Q) :
    rd K TG W R1 d s H (fun b H1 => ∃ B F G0 G1 r1 a, SR K TG B F G0 G1 H1 r1 s ∧ R1 G1 a b ∧ postX K TG W B F G0 G1 s Q (k a r1)) := by
  obtain ⟨B, F, G0, G, z, i, p⟩ := h
  refine ⟨B, F, G0, G, z, i, ?_⟩
  unfold M.bind at p
  cases hr : d z with
  | ok a r1 => rw [hr] at p; exact fun G' H' b e i' v => ⟨B, F, G0, G', r1, a, i', v, postX_mono e _ p⟩
  | ex x r1 => rw [hr] at p; exact p
  | st => rw [hr] at p; exact p
theorem rdX_v {d : M PyData} (h : rdX K TG W (xV d) s H Q) : rd K TG W (RE K) d s H Q := by
  obtain ⟨B, F, G0, G, r, i, p⟩ := rdX_bind (R1 := RE K) h
  refine ⟨B, F, G0, G, r, i, post_imp (fun x H1 q => ?_) _ p⟩
  obtain ⟨B, F, G0, G1, r1, a, i1, v1, p1⟩ := q
  exact p1 G1 H1 x (.refl _) i1 v1
theorem rdX_l {d : M (List PyData)} (h : rdX K TG W (xL d) s H Q) : rdL K TG W d s H Q := by
  obtain ⟨B, F, G0, G, r, i, p⟩ := h
  refine ⟨B, F, G0, G, r, i, ?_⟩
  unfold xL M.bind at p
  cases hr : d r with
  | ok a r1 => rw [hr] at p; exact p
  | ex x r1 => rw [hr] at p; exact p
  | st => rw [hr] at p; exact p
theorem rdX_fx {d : M Rz} (h : rd K TG W (RE K) (dFx d) s H Q) : rdX K TG W d s H Q := by
  obtain ⟨B, F, G0, G, z, i, p⟩ := h
  refine ⟨B, F, G0, G, z, i, ?_⟩
  unfold dFx M.bind at p
  cases hd : d z with
  | ok x r1 =>
    rw [hd] at p
    cases x with
    | v d => exact p
    | l ds =>
      intro G' H' a e i' f
      obtain ⟨G2, h3, h4, h5⟩ := f.keep i'
      exact p _ _ _ (e.trans h3) h4 h5
  | ex x r1 => rw [hd] at p; exact p
  | st => rw [hd] at p; exact p
/-- back to the frame: a list is laid -/
theorem SR.lay (i : SR K TG B F G0 G H r s) {ds : List PyData} {xs : List V} {p : Addr} (hp : H p = none) (v : RvA K G ds xs) : SR K TG B F G0 G (upd H p (.lst xs)) r s ∧ Free K B F G (upd H p (.lst xs)) r s p ds := i.newl hp v
end
section
variable {X : Cx} {TG : List TbK} {W : WX} {e a b c : Expr} {st : Stmt} {d : M PyData} {dl : M (List PyData)} {dx dy : M Rz} {pos : Pos}
theorem dx_v (h : DE X TG W e d) : DX X TG W e (xV d) := PE_imp h fun s H Q q => rdX_v q
theorem dx_l (h : DL X TG W e dl) : DX X TG W e (xL dl) := PE_imp h fun s H Q q => rdX_l q
theorem de_x (h : DX X TG W e dx) : DE X TG W e (dFx dx) := PE_imp h fun s H Q q => rdX_fx q
theorem ds_setX {i : Nat} {te : TE} (h : PS X st (tAsg te (gName i))) (w : ∀ s H Q, rdX X.K TG W dx s H Q → te s H Q) : DS X TG W st (sSetX i dx) := PS_imp h fun D s H q => by
  refine w s H _ ?_
  obtain ⟨B, F, G0, G, r, ir, p⟩ := q
  refine ⟨B, F, G0, G, r, ir, ?_⟩
  unfold sSetX M.bind at p
  cases hd : dx r with
  | ok x r1 =>
    rw [hd] at p
    cases x with
    | v d => exact fun G' H' v e i' f => post_tSet i' (postS_mono e _ p) f
    | l ds => exact fun G' H' v e i' f => post_tSetL i' (postS_mono e _ p) f
  | ex x r1 =>
    rw [hd] at p
    exact fun G' H' c dx e i' x => p G' H' s c dx e i' x
  | st => rw [hd] at p; exact p
/-- name = e -/
theorem ds_setN {i : Nat} {x : Str} {px : Pos} (hN : X.N.Nodup) (hi : X.N[i]? = some x) (hx : Loc X.env.scope x) (he : DX X TG W e dx) (hs : swapsWith e (some (.Name x px)) pos.line X.env = pure false) (hf : X.fn x = true ∨ X.env.scope.names.lookup x = some .local) :
    DS X TG W (.Assign [.Name x px] e pos) (sSetX i dx) := ds_setX (L2.ps_set hN hi hx he hs hf) fun s H Q q => q
def xIf (t : M Bool) (x y : M Rz) : M Rz := t.bind fun k => if k then x else y
theorem dx_if {t : M Bool} (hc : DT X TG W c t) (ha : DX X TG W a dx) (hb : DX X TG W b dy) : DX X TG W (.IfExp c a b pos) (xIf t dx dy) := PE_imp (pe_ifExp hc ha hb) fun s H Q q => by
  obtain ⟨B, F, G0, G, r, i, p⟩ := rdX_bind (R1 := RB) q
  refine ⟨B, F, G0, G, r, i, post_imp (fun k H1 q => ?_) _ p⟩
  obtain ⟨B, F, G0, G1, r1, k', i1, v1, p1⟩ := q
  have v1 : k' = k := v1
  subst v1
  cases k' with
  | true => exact ⟨B, F, G0, G1, r1, i1, p1⟩
  | false => exact ⟨B, F, G0, G1, r1, i1, p1⟩
end

/-! ### operands: a value, or a list that stays its owner's -/
def RO (K : PySem.W.Frag) (s : L2.St) (G : Hp) : Arg → V → Prop
  | .v d, x => Rv K G d x
  | .io i, x => s[i]? = some (some x)
theorem RO.mono {K : PySem.W.Frag} {s : L2.St} {G G' : Hp} (e : Same G G') : ∀ {a : Arg} {x : V}, RO K s G a x → RO K s G' a x
  | .v _, _, h => Rv.mono e _ _ h
  | .io _, _, h => h
/-- e as an operand -/
def DO (X : Cx) (TG : List TbK) (W : WX) (e : Expr) (d : M Arg) : Prop := PE X e (fun s H Q => rd X.K TG W (RO X.K s) d s H Q)
def oV (d : M PyData) : M Arg := d.bind fun x => .ret (.v x)
def oN (i : Nat) : M Arg := fun r => match r[i]? with
  | some (.v d) => .ok (.v d) r
  | some (.l _) => .ok (.io i) r
  | some (.io _) => .ok (.io i) r
  | _ => .st
/-- what it is -/
def reso (r : List Sl) : Arg → Option PyData
  | .v d => some d
  | .io i => (r[i]?.bind Sl.own).map .list
/-- a value; its own list may be in the heap alone -/
def Ro (K : PySem.W.Frag) (G H : Hp) (d : PyData) (x : V) : Prop := match d with
  | .list ds => ∃ a xs, x = .ref a ∧ H a = some (HO.lst xs) ∧ RvA K G ds xs
  | d => Rv K G d x
theorem Rv.ro {K : PySem.W.Frag} {G H : Hp} {d : PyData} {x : V} (e : Same G H) (h : Rv K G d x) : Ro K G H d x := by
  cases d with
  | list ds => obtain ⟨a, xs, h1, h2, h3⟩ := h; exact ⟨a, xs, h1, e _ _ h2, h3⟩
  | _ => exact h
theorem Ro.dp {K : PySem.W.Frag} {G H : Hp} {d : PyData} {x : V} (e : Same G H) (c : SeqAt.shaped d = true) (h : Ro K G H d x) : Dp K H x d := by
  have c := SeqAt.canLay_of_shaped c
  cases d with
  | list ds => obtain ⟨a, xs, h1, h2, h3⟩ := h; subst h1; exact .lst (.inl (.inl h2)) (RvA.dp e _ _ (by simpa [PyData.canLay0] using c) h3)
  | none => exact Rv.dp e _ _ c (show Rv K G .none x from h)
  | bool b => exact Rv.dp e _ _ c (show Rv K G (.bool b) x from h)
  | int b => exact Rv.dp e _ _ c (show Rv K G (.int b) x from h)
  | str b => exact Rv.dp e _ _ c (show Rv K G (.str b) x from h)
  | tuple b => exact Rv.dp e _ _ c (show Rv K G (.tuple b) x from h)
  | dict b => simp [PyData.canLay0] at c
theorem ro_of {K : PySem.W.Frag} {TG : List TbK} {B : List (Nat × Addr)} {F G0 G H : Hp} {r : List Sl} {s : L2.St} (i : SR K TG B F G0 G H r s) {a : Arg} {d : PyData} {x : V} (h : RO K s G a x) (e : reso r a = some d) : Ro K G H d x := by
  cases a with
  | v y => cases e; exact Rv.ro i.gh h
  | io j =>
    have e : (r[j]?.bind Sl.own).map PyData.list = some d := e
    cases q : r[j]?.bind Sl.own with
    | none => rw [q] at e; cases e
    | some ds =>
      rw [q] at e
      cases e
      obtain ⟨p, xs, h1, h2, h3, _⟩ := i.owns j ds q
      have h : s[j]? = some (some x) := h
      rw [h1] at h
      cases h
      exact ⟨p, xs, rfl, h2, h3⟩
section
variable {X : Cx} {TG : List TbK} {W : WX} {e : Expr} {d : M PyData}
theorem do_v (h : DE X TG W e d) : DO X TG W e (oV d) := PE_imp h fun s H Q q => by
  obtain ⟨B, F, G0, G, r, i, p⟩ := rd_bind (R1 := RE X.K) q
  refine ⟨B, F, G0, G, r, i, post_imp (fun x H1 q => ?_) _ p⟩
  obtain ⟨B, F, G0, G1, r1, a, i1, v1, p1⟩ := q
  exact p1 G1 H1 x (.refl _) i1 v1
theorem do_n {i : Nat} {x : Str} {pos : Pos} (h : PE X (.Name x pos) (tVar i)) : DO X TG W (.Name x pos) (oN i) := PE_imp h fun s H Q q => by
  obtain ⟨B, F, G0, G, r, ir, p⟩ := q
  unfold oN at p
  split at p
  · rename_i d e
    obtain ⟨v, h1, h2⟩ := ir.vals i d e
    exact ⟨v, h1, p G H v (.refl _) ir h2⟩
  · rename_i ds e
    obtain ⟨a, xs, h1, _⟩ := ir.owns i ds (by rw [e]; rfl)
    exact ⟨_, h1, p G H _ (.refl _) ir h1⟩
  · rename_i ds e
    obtain ⟨a, xs, h1, _⟩ := ir.owns i ds (by rw [e]; rfl)
    exact ⟨_, h1, p G H _ (.refl _) ir h1⟩
  · exact p.elim
end

/-! ### operations on values -/
/-- by the layer's rule r: where f says z, the value is z's, the heap grows at most -/
def Op2 (X : Cx) (r : R2) (f : PyData → PyData → Option PyData) : Prop :=
  ∀ (d e z : PyData) (x y : V) (G H : Hp) (Q : VK), Same G H → f d e = some z → Ro X.K G H d x → Ro X.K G H e y → (∀ G' H' v, Grow G H G' H' → Rv X.K G' z v → Q v H') → r x y H Q
def two {α : Type} (a b : M Arg) (k : PyData → PyData → M α) : M α := a.bind fun x => b.bind fun y r => match reso r x, reso r y with
  | some d, some e => k d e r
  | _, _ => .st
def dBin (f : PyData → PyData → Option PyData) (a b : M Arg) : M PyData := two a b fun d e => .opt (f d e)
section
variable {X : Cx} {TG : List TbK} {W : WX} {a b : Expr} {da db : M Arg} {pos : Pos}
theorem rd_two {γ δ : Type} {R2 : RL γ δ} {k : PyData → PyData → M γ} {s : L2.St} {H : Hp} {Q : δ → Hp → Prop} (h : rd X.K TG W R2 (two da db k) s H Q) :
    rd X.K TG W (RO X.K s) da s H fun x H1 => rd X.K TG W (RO X.K s) db s H1 fun y H2 => ∃ B F G0 G r d e, SR X.K TG B F G0 G H2 r s ∧ Ro X.K G H2 d x ∧ Ro X.K G H2 e y ∧ post X.K TG W R2 B F G0 G s Q (k d e r) := by
  obtain ⟨B, F, G0, G, r0, i0, p0⟩ := rd_bind (R1 := RO X.K s) h
  refine ⟨B, F, G0, G, r0, i0, post_imp (fun x H1 q => ?_) _ p0⟩
  obtain ⟨B, F, G0, G1, r1, d, i1, v1, p1⟩ := q
  refine ⟨B, F, G0, G1, r1, i1, post_imp (fun y H2 q => ?_) _ (post_bind (R1 := RO X.K s) _ p1)⟩
  obtain ⟨G2, r2, e, e2, i2, v2, p2⟩ := q
  have p2 : post X.K TG W R2 B F G0 G2 s Q (match reso r2 d, reso r2 e with
    | some d, some e => k d e r2
    | _, _ => .st) := p2
  cases hd : reso r2 d with
  | none => rw [hd] at p2; exact p2.elim
  | some u =>
    cases he : reso r2 e with
    | none => rw [hd, he] at p2; exact p2.elim
    | some w =>
      rw [hd, he] at p2
      exact ⟨B, F, G0, G2, r2, u, w, i2, ro_of i2 (v1.mono e2) hd, ro_of i2 v2 he, p2⟩
theorem tOp_of {r : R2} {f : PyData → PyData → Option PyData} (hf : Op2 X r f) {s : L2.St} {H : Hp} {Q : VK} (h : rd X.K TG W (RE X.K) (dBin f da db) s H Q) :
    tOp r (fun s H Q => rd X.K TG W (RO X.K s) da s H Q) (fun s H Q => rd X.K TG W (RO X.K s) db s H Q) s H Q := by
  obtain ⟨B, F, G0, G, r0, i0, p0⟩ := rd_two h
  refine ⟨B, F, G0, G, r0, i0, post_imp (fun x H1 q => ?_) _ p0⟩
  obtain ⟨B, F, G0, G, r0, i0, p0⟩ := q
  refine ⟨B, F, G0, G, r0, i0, post_imp (fun y H2 q => ?_) _ p0⟩
  obtain ⟨B, F, G0, G2, r2, d, e, i2, v1, v2, p3⟩ := q
  cases hz : f d e with
  | none => rw [hz] at p3; exact p3.elim
  | some z =>
    rw [hz] at p3
    exact hf d e z x y G2 H2 Q i2.gh hz v1 v2 fun G' H' v g rv => p3 G' H' v g.g (i2.grow g) rv
theorem de_bin {op : Operator} {r : R2} {f : PyData → PyData → Option PyData} (ho : OpR X (binaryOp op) r) (hf : Op2 X r f) (ha : DO X TG W a da) (hb : DO X TG W b db) : DE X TG W (.BinOp a op b pos) (dBin f da db) :=
  PE_imp (pe_op ho ha hb) fun s H Q h => tOp_of hf h
theorem de_cmp {op : CmpOp} {r : R2} {f : PyData → PyData → Option PyData} (ho : OpR X (compareOp op) r) (hf : Op2 X r f) (hm : behindInMarks op b = false) (ha : DO X TG W a da) (hb : DO X TG W b db) : DE X TG W (.Compare a [op] [b] pos) (dBin f da db) :=
  PE_imp (pe_cmpR ho ha hb hm) fun s H Q h => tOp_of hf h
theorem dt_cmp {op : CmpOp} {r : R2} {f : PyData → PyData → Option PyData} (ho : OpR X (compareOp op) r) (hf : Op2 X r f) (hm : behindInMarks op b = false) (ha : DO X TG W a da) (hb : DO X TG W b db) : DT X TG W (.Compare a [op] [b] pos) ((dBin f da db).bind asB) :=
  PT_imp (pt_cmpR ho ha hb hm) fun s H Q q => tOp_of hf (rd_asB q)
end

/-! ### operations that may make a list -/
/-- by the layer's rule r: a value with new objects, or a new list of values -/
def OpX (X : Cx) (r : R2) (f : PyData → PyData → Option Rz) : Prop :=
  ∀ (d e : PyData) (z : Rz) (x y : V) (G H : Hp) (Q : VK), Same G H → f d e = some z → Ro X.K G H d x → Ro X.K G H e y →
    (∀ d', z = .v d' → ∀ G' H' v, Grow G H G' H' → Rv X.K G' d' v → Q v H') → (∀ ds, z = .l ds → ∀ p xs, H p = none → RvA X.K G ds xs → Q (.ref p) (upd H p (.lst xs))) → r x y H Q
def xBin (f : PyData → PyData → Option Rz) (a b : M Arg) : M Rz := two a b fun d e => .opt (f d e)
section
variable {X : Cx} {TG : List TbK} {W : WX} {a b : Expr} {da db : M Arg} {pos : Pos}
theorem rdX_two {k : PyData → PyData → M Rz} {s : L2.St} {H : Hp} {Q : VK} (h : rdX X.K TG W (two da db k) s H Q) :
    rd X.K TG W (RO X.K s) da s H fun x H1 => rd X.K TG W (RO X.K s) db s H1 fun y H2 => ∃ B F G0 G r d e, SR X.K TG B F G0 G H2 r s ∧ Ro X.K G H2 d x ∧ Ro X.K G H2 e y ∧ postX X.K TG W B F G0 G s Q (k d e r) := by
  obtain ⟨B, F, G0, G, r0, i0, p0⟩ := rdX_bind (R1 := RO X.K s) h
  refine ⟨B, F, G0, G, r0, i0, post_imp (fun x H1 q => ?_) _ p0⟩
  obtain ⟨B, F, G0, G1, r1, d, i1, v1, p1⟩ := q
  refine ⟨B, F, G0, G1, r1, i1, ?_⟩
  unfold M.bind at p1
  cases hr : db r1 with
  | ex x r2 => rw [hr] at p1; exact p1
  | st => rw [hr] at p1; exact p1
  | ok e r2 =>
    rw [hr] at p1
    intro G2 H2 y e2 i2 v2
    have p2 : postX X.K TG W B F G0 G1 s Q (match reso r2 d, reso r2 e with
      | some d, some e => k d e r2
      | _, _ => .st) := p1
    cases hd : reso r2 d with
    | none => rw [hd] at p2; exact p2.elim
    | some u =>
      cases he : reso r2 e with
      | none => rw [hd, he] at p2; exact p2.elim
      | some w =>
        rw [hd, he] at p2
        exact ⟨B, F, G0, G2, r2, u, w, i2, ro_of i2 (v1.mono e2) hd, ro_of i2 v2 he, postX_mono e2 _ p2⟩
theorem tOpX_of {r : R2} {f : PyData → PyData → Option Rz} (hf : OpX X r f) {s : L2.St} {H : Hp} {Q : VK} (h : rdX X.K TG W (xBin f da db) s H Q) :
    tOp r (fun s H Q => rd X.K TG W (RO X.K s) da s H Q) (fun s H Q => rd X.K TG W (RO X.K s) db s H Q) s H Q := by
  obtain ⟨B, F, G0, G, r0, i0, p0⟩ := rdX_two h
  refine ⟨B, F, G0, G, r0, i0, post_imp (fun x H1 q => ?_) _ p0⟩
  obtain ⟨B, F, G0, G, r0, i0, p0⟩ := q
  refine ⟨B, F, G0, G, r0, i0, post_imp (fun y H2 q => ?_) _ p0⟩
  obtain ⟨B, F, G0, G2, r2, d, e, i2, v1, v2, p1⟩ := q
  cases hz : f d e with
  | none => rw [hz] at p1; exact p1.elim
  | some z =>
    rw [hz] at p1
    refine hf d e z x y G2 H2 Q i2.gh hz v1 v2 (fun d' hd G' H' v g rv => ?_) fun ds hl p xs hp hv => ?_
    · subst hd
      exact p1 G' H' v g.g (i2.grow g) rv
    · subst hl
      obtain ⟨i3, fr⟩ := i2.newl hp hv
      exact p1 _ _ _ (.refl _) i3 fr
theorem dx_bin {op : Operator} {r : R2} {f : PyData → PyData → Option Rz} (ho : OpR X (binaryOp op) r) (hf : OpX X r f) (ha : DO X TG W a da) (hb : DO X TG W b db) : DX X TG W (.BinOp a op b pos) (xBin f da db) :=
  PE_imp (pe_op ho ha hb) fun s H Q h => tOpX_of hf h
end
/-- + -/
def fAdd : PyData → PyData → Option Rz
  | .int i, .int j => some (.v (.int (i + j)))
  | .str x, .str y => if x.length + y.length ≤ sizeLine then some (.v (.str (x ++ y))) else none
  | .tuple xs, .tuple ys => if xs.length + ys.length ≤ sizeLine then some (.v (.tuple (xs ++ ys))) else none
  | .list xs, .list ys => if xs.length + ys.length ≤ sizeLine then some (.l (xs ++ ys)) else none
  | _, _ => none
/-- * -/
def fMul : PyData → PyData → Option Rz
  | .int i, .int j => if (-(2 ^ 64) < i ∧ i < 2 ^ 64) ∨ (-(2 ^ 64) < j ∧ j < 2 ^ 64) then some (.v (.int (i * j))) else none
  | .tuple xs, .int k => if xs ≠ [] ∧ 2 ≤ k ∧ k ≤ 1000 ∧ xs.length ≤ 1000 then some (.v (.tuple (List.replicate k.toNat xs).flatten)) else none
  | .list xs, .int k => if -(2 ^ 63) ≤ k ∧ k < 2 ^ 63 ∧ xs.length * k.toNat ≤ sizeLine then some (.l (List.replicate k.toNat xs).flatten) else none
  | _, _ => none
section
variable {X : Cx}
theorem RvA.rep {K : PySem.W.Frag} {G : Hp} {ds : List PyData} {xs : List V} (h : RvA K G ds xs) : ∀ n : Nat, RvA K G (List.replicate n ds).flatten (List.replicate n xs).flatten
  | 0 => rfl
  | n + 1 => by
    rw [List.replicate_succ, List.replicate_succ, List.flatten_cons, List.flatten_cons]
    exact h.app (RvA.rep h n)
theorem RvA.nil_iff {K : PySem.W.Frag} {G : Hp} {ds : List PyData} {xs : List V} (h : RvA K G ds xs) : xs = [] ↔ ds = [] := by
  have := h.len
  constructor <;> intro e <;> subst e
  · exact List.eq_nil_of_length_eq_zero this.symm
  · exact List.eq_nil_of_length_eq_zero this
theorem OpX.or {f : Value → Value → Sem Value} {r r' : R2} (h : OpR X f r) (h' : OpR X f r') : OpR X f (fun x y H Q => r x y H Q ∨ r' x y H Q) := OpR.or h h'
theorem ox_add : OpX X (fun x y H Q => (rI0 (fun i j => .int (i + j)) x y H Q ∨ (∃ i j, x = .str i ∧ y = .str j ∧ i.length + j.length ≤ sizeLine ∧ Q (.str (i ++ j)) H)) ∨ (rCatA X.K x y H Q ∨ rCat x y H Q)) fAdd := by
  intro d e z x y G H Q gh hz hx hy qv ql
  unfold fAdd at hz
  split at hz
  · cases hz; cases hx; cases hy
    exact .inl (.inl ⟨_, _, rfl, rfl, qv _ rfl G H _ (.refl gh) rfl⟩)
  · split at hz
    · rename_i hl
      cases hz; cases hx; cases hy
      exact .inl (.inr ⟨_, _, rfl, rfl, hl, qv _ rfl G H _ (.refl gh) rfl⟩)
    · cases hz
  · split at hz
    · rename_i xs ys hl
      cases hz
      obtain ⟨p, us, rfl, h1, h2⟩ := hx
      obtain ⟨q, vs, rfl, k1, k2⟩ := hy
      refine .inr (.inl ⟨p, q, us, vs, rfl, rfl, same_t gh h1, same_t gh k1, by rw [h2.len, k2.len]; exact hl, fun e => ?_, fun e e' => ?_, fun e e' b hb => ?_⟩)
      · have e := h2.nil_iff.mp e
        subst e
        exact qv _ rfl G H _ (.refl gh) ⟨q, vs, rfl, k1, k2⟩
      · have e := k2.nil_iff.mp e'
        subst e
        rw [List.append_nil] at qv
        exact qv _ rfl G H _ (.refl gh) ⟨p, us, rfl, h1, h2⟩
      · have g := Grow.new gh hb (.tup (us ++ vs)) (fun _ z => by cases z)
        exact qv _ rfl _ _ _ g ⟨b, _, rfl, .inl (.inl upd_same), (RvA.mono g.g _ _ h2).app (RvA.mono g.g _ _ k2)⟩
    · cases hz
  · split at hz
    · rename_i xs ys hl
      cases hz
      obtain ⟨p, us, rfl, h1, h2⟩ := hx
      obtain ⟨q, vs, rfl, k1, k2⟩ := hy
      exact .inr (.inr ⟨p, q, us, vs, rfl, rfl, h1, k1, by rw [h2.len, k2.len]; exact hl, fun b hb => ql _ rfl b _ hb (h2.app k2)⟩)
    · cases hz
  · cases hz
theorem ox_mul : OpX X (fun x y H Q => rI CMul (fun i j => .int (i * j)) x y H Q ∨ (rRepT X.K x y H Q ∨ rRep x y H Q)) fMul := by
  intro d e z x y G H Q gh hz hx hy qv ql
  unfold fMul at hz
  split at hz
  · split at hz
    · rename_i hc
      cases hz; cases hx; cases hy
      exact .inl ⟨_, _, rfl, rfl, hc, qv _ rfl G H _ (.refl gh) rfl⟩
    · cases hz
  · split at hz
    · rename_i xs k hc
      cases hz; cases hy
      obtain ⟨p, us, rfl, h1, h2⟩ := hx
      refine .inr (.inl ⟨p, k, us, rfl, rfl, same_t gh h1, fun e => hc.1 (h2.nil_iff.mp e), hc.2.1, hc.2.2.1, by rw [h2.len]; exact hc.2.2.2, fun b hb => ?_⟩)
      have g := Grow.new gh hb (.tup (List.replicate k.toNat us).flatten) (fun _ z => by cases z)
      exact qv _ rfl _ _ _ g ⟨b, _, rfl, .inl (.inl upd_same), (RvA.mono g.g _ _ h2).rep _⟩
    · cases hz
  · split at hz
    · rename_i xs k hc
      cases hz; cases hy
      obtain ⟨p, us, rfl, h1, h2⟩ := hx
      exact .inr (.inr ⟨p, k, us, rfl, rfl, h1, hc.1, hc.2.1, by rw [h2.len]; exact hc.2.2, fun b hb => ql _ rfl b _ hb (h2.rep _)⟩)
    · cases hz
  · cases hz
def fInt (C : Int → Int → Bool) (g : Int → Int → Int) : PyData → PyData → Option PyData
  | .int i, .int j => if C i j then some (.int (g i j)) else none
  | _, _ => none
def fSub := fInt (fun _ _ => true) (· - ·)
def fDiv := fInt (fun _ j => decide (0 < j ∧ j < 1073741824)) (· / ·)
def fMod := fInt (fun _ j => decide (0 < j)) (· % ·)
def fPow := fInt (fun i j => decide (0 ≤ j ∧ j ≤ 1000000 ∧ i.natAbs < 2 ^ 64)) fun i j => i ^ j.toNat
theorem o_int {C : Int → Int → Prop} {c : Int → Int → Bool} {g : Int → Int → Int} (hc : ∀ i j, c i j = true → C i j) : Op2 X (rI C fun i j => .int (g i j)) (fInt c g) := by
  intro d e z x y G H Q gh hz hx hy q
  unfold fInt at hz
  split at hz
  · split at hz
    · rename_i h
      cases hz; cases hx; cases hy
      exact ⟨_, _, rfl, rfl, hc _ _ h, q G H _ (.refl gh) rfl⟩
    · cases hz
  · cases hz
theorem o_sub : Op2 X (rI0 fun i j => .int (i - j)) fSub := by
  intro d e z x y G H Q gh hz hx hy q
  unfold fSub fInt at hz
  split at hz
  · cases hz; cases hx; cases hy
    exact ⟨_, _, rfl, rfl, q G H _ (.refl gh) rfl⟩
  · cases hz
theorem o_div : Op2 X (rI CDiv fun i j => .int (i / j)) fDiv := o_int fun i j h => (of_decide_eq_true h : 0 < j ∧ j < 1073741824)
theorem o_mod : Op2 X (rI (fun _ j => 0 < j) fun i j => .int (i % j)) fMod := o_int fun i j h => of_decide_eq_true h
theorem o_pow : Op2 X (rI CPow fun i j => .int (i ^ j.toNat)) fPow := o_int fun i j h => (of_decide_eq_true h : 0 ≤ j ∧ j ≤ 1000000 ∧ i.natAbs < 2 ^ 64)
/-! comparisons -/
def fEq (d e : PyData) : Option PyData := if SeqAt.shaped d && SeqAt.shaped e then some (.bool (PyData.eqv d e)) else none
def fNe (d e : PyData) : Option PyData := if SeqAt.shaped d && SeqAt.shaped e then some (.bool (!PyData.eqv d e)) else none
theorem o_eq : Op2 X (rEqD X.K) fEq := by
  intro d e z x y G H Q gh hz hx hy q
  unfold fEq at hz
  split at hz
  · rename_i h
    rw [Bool.and_eq_true] at h
    cases hz
    exact ⟨d, e, Ro.dp gh h.1 hx, Ro.dp gh h.2 hy, h.1, h.2, q G H _ (.refl gh) rfl⟩
  · cases hz
theorem o_ne : Op2 X (rNeD X.K) fNe := by
  intro d e z x y G H Q gh hz hx hy q
  unfold fNe at hz
  split at hz
  · rename_i h
    rw [Bool.and_eq_true] at h
    cases hz
    exact ⟨d, e, Ro.dp gh h.1 hx, Ro.dp gh h.2 hy, h.1, h.2, q G H _ (.refl gh) rfl⟩
  · cases hz
def fCmp (p : Int → Int → Bool) : PyData → PyData → Option PyData
  | .int i, .int j => some (.bool (p i j))
  | _, _ => none
def fLt := fCmp fun i j => decide (i < j)
def fLe := fCmp fun i j => decide (i ≤ j)
def fGt := fCmp fun i j => decide (j < i)
def fGe := fCmp fun i j => decide (j ≤ i)
theorem o_cmp {p : Int → Int → Bool} : Op2 X (rI0 fun i j => .bl (p i j)) (fCmp p) := by
  intro d e z x y G H Q gh hz hx hy q
  unfold fCmp at hz
  split at hz
  · cases hz; cases hx; cases hy
    exact ⟨_, _, rfl, rfl, q G H _ (.refl gh) rfl⟩
  · cases hz
theorem o_lt : Op2 X (rI0 fun i j => .bl (decide (i < j))) fLt := o_cmp
theorem o_le : Op2 X (rI0 fun i j => .bl (decide (i ≤ j))) fLe := o_cmp
theorem o_gt : Op2 X (rI0 fun i j => .bl (decide (j < i))) fGt := o_cmp
theorem o_ge : Op2 X (rI0 fun i j => .bl (decide (j ≤ i))) fGe := o_cmp
def isNone : PyData → Bool
  | .none => true
  | _ => false
def fIs : PyData → PyData → Option PyData
  | d, .none => some (.bool (isNone d))
  | _, _ => none
def fIsNot : PyData → PyData → Option PyData
  | d, .none => some (.bool (!isNone d))
  | _, _ => none
theorem isNone_dec {K : PySem.W.Frag} {G H : Hp} {d : PyData} {x : V} (h : Ro K G H d x) : decide (x = .non) = isNone d := by
  cases d with
  | none => cases h; rfl
  | bool _ => cases h; rfl
  | int _ => cases h; rfl
  | str _ => cases h; rfl
  | list _ => obtain ⟨a, xs, rfl, _⟩ := h; rfl
  | tuple _ => obtain ⟨a, xs, rfl, _⟩ := h; rfl
  | dict _ =>
    rcases (show (∃ a ns, _ ∧ x = .ref a ∧ _) ∨ ∃ a ks, x = .ref a ∧ _ from h) with ⟨a, ns, _, rfl, _⟩ | ⟨a, ks, rfl, _⟩ <;> rfl
theorem o_is : Op2 X (fun x y H Q => y = .non ∧ Q (.bl (decide (x = .non))) H) fIs := by
  intro d e z x y G H Q gh hz hx hy q
  unfold fIs at hz
  split at hz
  · cases hz; cases hy
    exact ⟨rfl, by rw [isNone_dec hx]; exact q G H _ (.refl gh) rfl⟩
  · cases hz
theorem o_isnot : Op2 X (fun x y H Q => y = .non ∧ Q (.bl (!decide (x = .non))) H) fIsNot := by
  intro d e z x y G H Q gh hz hx hy q
  unfold fIsNot at hz
  split at hz
  · cases hz; cases hy
    exact ⟨rfl, by rw [isNone_dec hx]; exact q G H _ (.refl gh) rfl⟩
  · cases hz
/-- x in a list of any data; x in a tuple of flat items -/
def flatD : PyData → Bool
  | .none | .bool _ | .int _ | .str _ => true
  | _ => false
def fIn (neg : Bool) : PyData → PyData → Option PyData
  | d, .list ds => if SeqAt.shaped d && SeqAt.shaped (.list ds) then some (.bool (if neg then !ds.any fun z => PyData.eqv z d else ds.any fun z => PyData.eqv z d)) else none
  | d, .tuple ds => if flatD d && ds.all flatD then some (.bool (if neg then !ds.any fun z => PyData.eqv z d else ds.any fun z => PyData.eqv z d)) else none
  | .str x, .str y => some (.bool (if neg then !(!(Builtin.Str.occurrences y x 0 y.length 1).isEmpty) else !(Builtin.Str.occurrences y x 0 y.length 1).isEmpty))
  | _, _ => none
theorem ro_flat {K : PySem.W.Frag} {G H : Hp} {d : PyData} {x : V} (hd : flatD d = true) (h : Ro K G H d x) : Rv K G d x := by
  cases d <;> first | (cases hd; done) | exact h
theorem eqV_eqv {K : PySem.W.Frag} {G : Hp} {d e : PyData} {x y : V} (hd : flatD d = true) (he : flatD e = true) (h : Rv K G d x) (k : Rv K G e y) : flatV x = true ∧ eqV x y = PyData.eqv d e := by
  cases d <;> first | (cases hd; done) | skip
  all_goals cases e <;> first | (cases he; done) | skip
  all_goals (cases h; cases k; refine ⟨rfl, ?_⟩; simp only [eqV, PyData.eqv])
theorem inV_eqv {K : PySem.W.Frag} {G : Hp} {d : PyData} {x : V} (hd : flatD d = true) (h : Rv K G d x) : ∀ {ds : List PyData} {xs : List V}, ds.all flatD = true → RvA K G ds xs → xs.all flatV = true ∧ inV x xs = ds.any fun z => PyData.eqv z d
  | [], _, _, e => by cases e; exact ⟨rfl, rfl⟩
  | e :: ds, _, hf, ⟨y, r, rfl, k1, k2⟩ => by
    rw [List.all_cons, Bool.and_eq_true] at hf
    obtain ⟨a1, a2⟩ := eqV_eqv hf.1 hd k1 h
    obtain ⟨b1, b2⟩ := inV_eqv hd h hf.2 k2
    refine ⟨by rw [List.all_cons, a1, b1]; rfl, ?_⟩
    unfold inV at b2 ⊢
    rw [List.any_cons, List.any_cons, b2, a2]
theorem o_in : Op2 X (fun x y H Q => (rInD X.K x y H Q ∨ rIn X.K false x y H Q) ∨ ∃ i j, x = .str i ∧ y = .str j ∧ Q (.bl (!(Builtin.Str.occurrences j i 0 j.length 1).isEmpty)) H) (fIn false) := by
  intro d e z x y G H Q gh hz hx hy q
  unfold fIn at hz
  split at hz
  · split at hz
    · rename_i h
      rw [Bool.and_eq_true] at h
      cases hz
      exact .inl (.inl ⟨_, _, Ro.dp gh h.1 hx, Ro.dp gh h.2 hy, h.1, h.2, q G H _ (.refl gh) rfl⟩)
    · cases hz
  · split at hz
    · rename_i h
      rw [Bool.and_eq_true] at h
      cases hz
      obtain ⟨p, xs, rfl, h1, h2⟩ := hy
      obtain ⟨a1, a2⟩ := inV_eqv h.1 (ro_flat h.1 hx) h.2 h2
      have fx : flatV x = true := by
        cases d <;> first | (cases h.1; done) | (cases hx; rfl)
      refine .inl (.inr ⟨p, xs, rfl, .inr (same_t gh h1), fx, a1, ?_⟩)
      rw [a2]
      exact q G H _ (.refl gh) rfl
    · cases hz
  · cases hz; cases hx; cases hy
    exact .inr ⟨_, _, rfl, rfl, q G H _ (.refl gh) rfl⟩
  · cases hz
theorem o_notin : Op2 X (fun x y H Q => (rNotInD X.K x y H Q ∨ rIn X.K true x y H Q) ∨ ∃ i j, x = .str i ∧ y = .str j ∧ Q (.bl (!(!(Builtin.Str.occurrences j i 0 j.length 1).isEmpty))) H) (fIn true) := by
  intro d e z x y G H Q gh hz hx hy q
  unfold fIn at hz
  split at hz
  · split at hz
    · rename_i h
      rw [Bool.and_eq_true] at h
      cases hz
      exact .inl (.inl ⟨_, _, Ro.dp gh h.1 hx, Ro.dp gh h.2 hy, h.1, h.2, q G H _ (.refl gh) rfl⟩)
    · cases hz
  · split at hz
    · rename_i h
      rw [Bool.and_eq_true] at h
      cases hz
      obtain ⟨p, xs, rfl, h1, h2⟩ := hy
      obtain ⟨a1, a2⟩ := inV_eqv h.1 (ro_flat h.1 hx) h.2 h2
      have fx : flatV x = true := by
        cases d <;> first | (cases h.1; done) | (cases hx; rfl)
      refine .inl (.inr ⟨p, xs, rfl, .inr (same_t gh h1), fx, a1, ?_⟩)
      rw [a2]
      exact q G H _ (.refl gh) rfl
    · cases hz
  · cases hz; cases hx; cases hy
    exact .inr ⟨_, _, rfl, rfl, q G H _ (.refl gh) rfl⟩
  · cases hz
end
section
variable {X : Cx} {TG : List TbK} {W : WX} {a b c : Expr} {da db dc : M Arg} {pos : Pos}
/-! the rules by name -/
theorem dx_add (ha : DO X TG W a da) (hb : DO X TG W b db) : DX X TG W (.BinOp a .Add b pos) (xBin fAdd da db) := dx_bin ((op_add.or op_add_str).or (op_catA.or op_cat)) ox_add ha hb
theorem dx_mul (ha : DO X TG W a da) (hb : DO X TG W b db) : DX X TG W (.BinOp a .Mult b pos) (xBin fMul da db) := dx_bin (op_mul.or (op_repT.or op_rep)) ox_mul ha hb
theorem de_sub (ha : DO X TG W a da) (hb : DO X TG W b db) : DE X TG W (.BinOp a .Sub b pos) (dBin fSub da db) := de_bin op_sub o_sub ha hb
theorem de_div (ha : DO X TG W a da) (hb : DO X TG W b db) : DE X TG W (.BinOp a .FloorDiv b pos) (dBin fDiv da db) := de_bin op_fdiv o_div ha hb
theorem de_mod (ha : DO X TG W a da) (hb : DO X TG W b db) : DE X TG W (.BinOp a .Mod b pos) (dBin fMod da db) := de_bin op_mod o_mod ha hb
theorem de_pow (ha : DO X TG W a da) (hb : DO X TG W b db) : DE X TG W (.BinOp a .Pow b pos) (dBin fPow da db) := de_bin op_pow o_pow ha hb
/-- a comparison: as a value and as a test -/
structure DCmp (X : Cx) (TG : List TbK) (W : WX) (e : Expr) (d : M PyData) : Prop where
  ve : DE X TG W e d
  vt : DT X TG W e (d.bind asB)
theorem dc_of {op : CmpOp} {r : R2} {f : PyData → PyData → Option PyData} (ho : OpR X (compareOp op) r) (hf : Op2 X r f) (hm : behindInMarks op b = false) (ha : DO X TG W a da) (hb : DO X TG W b db) : DCmp X TG W (.Compare a [op] [b] pos) (dBin f da db) := ⟨de_cmp ho hf hm ha hb, dt_cmp ho hf hm ha hb⟩
theorem dc_eq (hu : X.A.units + 65 < cLine) (hm : behindInMarks .Eq b = false) (ha : DO X TG W a da) (hb : DO X TG W b db) : DCmp X TG W (.Compare a [.Eq] [b] pos) (dBin fEq da db) := dc_of (op_eqD (by omega)) o_eq hm ha hb
theorem dc_ne (hu : X.A.units + 65 < cLine) (hm : behindInMarks .NotEq b = false) (ha : DO X TG W a da) (hb : DO X TG W b db) : DCmp X TG W (.Compare a [.NotEq] [b] pos) (dBin fNe da db) := dc_of (op_neD (by omega)) o_ne hm ha hb
theorem dc_lt (hm : behindInMarks .Lt b = false) (ha : DO X TG W a da) (hb : DO X TG W b db) : DCmp X TG W (.Compare a [.Lt] [b] pos) (dBin fLt da db) := dc_of op_lt o_lt hm ha hb
theorem dc_le (hm : behindInMarks .LtE b = false) (ha : DO X TG W a da) (hb : DO X TG W b db) : DCmp X TG W (.Compare a [.LtE] [b] pos) (dBin fLe da db) := dc_of op_le o_le hm ha hb
theorem dc_gt (hm : behindInMarks .Gt b = false) (ha : DO X TG W a da) (hb : DO X TG W b db) : DCmp X TG W (.Compare a [.Gt] [b] pos) (dBin fGt da db) := dc_of op_gt o_gt hm ha hb
theorem dc_ge (hm : behindInMarks .GtE b = false) (ha : DO X TG W a da) (hb : DO X TG W b db) : DCmp X TG W (.Compare a [.GtE] [b] pos) (dBin fGe da db) := dc_of op_ge o_ge hm ha hb
theorem dc_is (hm : behindInMarks .Is b = false) (ha : DO X TG W a da) (hb : DO X TG W b db) : DCmp X TG W (.Compare a [.Is] [b] pos) (dBin fIs da db) := dc_of op_isN o_is hm ha hb
theorem dc_isnot (hm : behindInMarks .IsNot b = false) (ha : DO X TG W a da) (hb : DO X TG W b db) : DCmp X TG W (.Compare a [.IsNot] [b] pos) (dBin fIsNot da db) := dc_of op_notN o_isnot hm ha hb
theorem dc_in (hu : X.A.units + 65 < cLine) (hm : behindInMarks .In b = false) (ha : DO X TG W a da) (hb : DO X TG W b db) : DCmp X TG W (.Compare a [.In] [b] pos) (dBin (fIn false) da db) := dc_of (((op_inD hu).or op_in_seq).or op_in_str) o_in hm ha hb
theorem dc_notin (hu : X.A.units + 65 < cLine) (hm : behindInMarks .NotIn b = false) (ha : DO X TG W a da) (hb : DO X TG W b db) : DCmp X TG W (.Compare a [.NotIn] [b] pos) (dBin (fIn true) da db) := dc_of (((op_notInD hu).or op_notIn_seq).or op_notin_str) o_notin hm ha hb
/-- a op b op' c -/
def dChain (f g : PyData → PyData → Option PyData) (a b c : M Arg) : M PyData := a.bind fun x => b.bind fun y r => match reso r x, reso r y with
  | some d, some e => ((M.opt (f d e)).bind fun z => (asB z).bind fun k => if k then c.bind fun u r => (match reso r y, reso r u with
    | some e, some w => M.opt (g e w) r
    | _, _ => .st) else .ret (.bool false)) r
  | _, _ => .st
theorem rd_chain {r r' : R2} {f g : PyData → PyData → Option PyData} (hf : Op2 X r f) (hg : Op2 X r' g) {s : L2.St} {H : Hp} {Q : VK} (h : rd X.K TG W (RE X.K) (dChain f g da db dc) s H Q) :
    tChain r r' (fun s H Q => rd X.K TG W (RO X.K s) da s H Q) (fun s H Q => rd X.K TG W (RO X.K s) db s H Q) (fun s H Q => rd X.K TG W (RO X.K s) dc s H Q) s H Q := by
  obtain ⟨B, F, G0, G, r0, i0, p0⟩ := rd_bind (R1 := RO X.K s) h
  refine ⟨B, F, G0, G, r0, i0, post_imp (fun x H1 q => ?_) _ p0⟩
  obtain ⟨B, F, G0, G1, r1, d, i1, v1, p1⟩ := q
  refine ⟨B, F, G0, G1, r1, i1, post_imp (fun y H2 q => ?_) _ (post_bind (R1 := RO X.K s) _ p1)⟩
  obtain ⟨G2, r2, e, e2, i2, v2, p2⟩ := q
  have p2 : post X.K TG W (RE X.K) B F G0 G2 s Q (match reso r2 d, reso r2 e with
    | some d, some e' => ((M.opt (f d e')).bind fun z => (asB z).bind fun k => if k then dc.bind fun u r => (match reso r e, reso r u with
      | some e, some w => M.opt (g e w) r
      | _, _ => .st) else .ret (.bool false)) r2
    | _, _ => .st) := p2
  cases hd : reso r2 d with
  | none => rw [hd] at p2; exact p2.elim
  | some du =>
    cases he : reso r2 e with
    | none => rw [hd, he] at p2; exact p2.elim
    | some eu =>
      rw [hd, he] at p2
      cases hz : f du eu with
      | none => unfold M.bind at p2; simp only [hz] at p2; exact p2.elim
      | some z =>
        refine hf du eu z x y G2 H2 _ i2.gh hz (ro_of i2 (v1.mono e2) hd) (ro_of i2 v2 he) fun G3 H3 v g3 rv => ?_
        have p2 : post X.K TG W (RE X.K) B F G0 G2 s Q (((M.opt (f du eu)).bind fun z => (asB z).bind fun k => if k then dc.bind fun u r => (match reso r e, reso r u with
          | some e, some w => M.opt (g e w) r
          | _, _ => .st) else .ret (.bool false)) r2) := p2
        rw [hz] at p2
        have p2 : post X.K TG W (RE X.K) B F G0 G2 s Q (((asB z).bind fun k => if k then dc.bind fun u r => (match reso r e, reso r u with
          | some e, some w => M.opt (g e w) r
          | _, _ => .st) else .ret (.bool false)) r2) := p2
        cases z with
        | bool k =>
          have rv : v = .bl k := rv
          refine ⟨k, rv, ?_⟩
          have i3 := i2.grow g3
          cases k with
          | false => exact p2 G3 H3 (.bl false) g3.g i3 rfl
          | true =>
            have p2 : post X.K TG W (RE X.K) B F G0 G2 s Q ((dc.bind fun u r => (match reso r e, reso r u with
              | some e, some w => M.opt (g e w) r
              | _, _ => .st)) r2) := p2
            refine ⟨B, F, G0, G3, r2, i3, post_imp (fun u H4 q => ?_) _ (post_bind (R1 := RO X.K s) _ (post_mono g3.g _ p2))⟩
            obtain ⟨G4, r4, e', e4, i4, v4, p4⟩ := q
            have p4 : post X.K TG W (RE X.K) B F G0 G4 s Q (match reso r4 e, reso r4 e' with
              | some e, some w => M.opt (g e w) r4
              | _, _ => .st) := p4
            cases he4 : reso r4 e with
            | none => rw [he4] at p4; exact p4.elim
            | some eu4 =>
              cases hu4 : reso r4 e' with
              | none => rw [he4, hu4] at p4; exact p4.elim
              | some uu =>
                rw [he4, hu4] at p4
                cases hw : g eu4 uu with
                | none => simp only [hw] at p4; exact p4.elim
                | some w =>
                  simp only [hw] at p4
                  exact hg eu4 uu w y u G4 H4 Q i4.gh hw (ro_of i4 (v2.mono (g3.g.trans e4)) he4) (ro_of i4 v4 hu4) fun G5 H5 v g5 rv => p4 G5 H5 v g5.g (i4.grow g5) rv
        | none => exact p2.elim
        | int _ => exact p2.elim
        | str _ => exact p2.elim
        | list _ => exact p2.elim
        | tuple _ => exact p2.elim
        | dict _ => exact p2.elim
theorem dc_chain {op op' : CmpOp} {r r' : R2} {f g : PyData → PyData → Option PyData} (ho : OpR X (compareOp op) r) (ho' : OpR X (compareOp op') r') (hf : Op2 X r f) (hg : Op2 X r' g) (ha : DO X TG W a da) (hb : DO X TG W b db) (hc : DO X TG W c dc)
    (hm : lastMarks [op, op'] [b, c] = false := by with_unfolding_all rfl) : DCmp X TG W (.Compare a [op, op'] [b, c] pos) (dChain f g da db dc) :=
  ⟨PE_imp (pe_chain ho ho' ha hb hc hm) fun s H Q h => rd_chain hf hg h, PT_imp (pt_chain ho ho' ha hb hc hm) fun s H Q h => rd_chain hf hg (rd_asB h)⟩
theorem dc_lele (ha : DO X TG W a da) (hb : DO X TG W b db) (hc : DO X TG W c dc) (hm : lastMarks [.LtE, .LtE] [b, c] = false := by with_unfolding_all rfl) : DCmp X TG W (.Compare a [.LtE, .LtE] [b, c] pos) (dChain fLe fLe da db dc) := dc_chain op_le op_le o_le o_le ha hb hc hm
theorem dc_lelt (ha : DO X TG W a da) (hb : DO X TG W b db) (hc : DO X TG W c dc) (hm : lastMarks [.LtE, .Lt] [b, c] = false := by with_unfolding_all rfl) : DCmp X TG W (.Compare a [.LtE, .Lt] [b, c] pos) (dChain fLe fLt da db dc) := dc_chain op_le op_lt o_le o_lt ha hb hc hm
end
end TW

end
section
namespace TW
open PySem PySem.Spec PyProof.Rows L2

theorem RvA.atI {K : PySem.W.Frag} {G : Hp} {ds : List PyData} {xs : List V} {i : Int} {d : PyData} (h : RvA K G ds xs) (e : L2.atI ds i = some d) : ∃ x, L2.atI xs i = some x ∧ Rv K G d x := by
  unfold L2.atI at e ⊢
  rw [h.len]
  cases q : ixN ds.length i with
  | none => rw [q] at e; cases e
  | some j => rw [q] at e; exact h.at e
/-! ### subscripts -/
def fIx : PyData → PyData → Option PyData
  | .list ds, .int i => atI ds i
  | .tuple ds, .int i => atI ds i
  | .str z, .int i => if z.length ≤ sizeLine then (atI z.cps.toList i).map fun c => .str ⟨#[c]⟩ else none
  | .dict [(.none, .list ds)], .int i => atI ds i
  | _, _ => none
theorem scr_list {ds : List PyData} {ns : List Int} (h : PyData.dict [(.none, .list ds)] = scr ns) : ds = ns.map PyData.int := by
  unfold scr at h
  injection h with h
  injection h with h _
  injection h with _ h
  injection h
theorem rv_scr {K : PySem.W.Frag} {G : Hp} {ds : List PyData} {x : V} (h : Rv K G (.dict [(.none, .list ds)]) x) : ∃ (a : Addr) (ns : List Int), ds = ns.map PyData.int ∧ x = .ref a ∧ SqL K G a (ns.map V.int) := by
  unfold Rv at h
  rcases h with ⟨a, ns, h1, h2, h3⟩ | ⟨a, ks, _, _, ⟨y, r, _, h2, _⟩⟩
  · exact ⟨a, ns, scr_list h1, h2, h3⟩
  · cases h2.1
theorem o_ix {X : Cx} : Op2 X (rIx X.K) fIx := by
  intro d e z x y G H Q gh hz hx hy q
  unfold fIx at hz
  split at hz
  · cases hy
    obtain ⟨p, us, rfl, h1, h2⟩ := hx
    obtain ⟨v, k1, k2⟩ := h2.atI hz
    exact .inl ⟨p, us, _, v, rfl, rfl, .inl (.inl h1), k1, q G H v (.refl gh) k2⟩
  · cases hy
    obtain ⟨p, us, rfl, h1, h2⟩ := hx
    obtain ⟨v, k1, k2⟩ := h2.atI hz
    exact .inr (.inl ⟨p, us, _, v, rfl, rfl, same_t gh h1, k1, q G H v (.refl gh) k2⟩)
  · split at hz
    · rename_i hl
      cases hx; cases hy
      rename_i s i
      cases hc : atI s.cps.toList i with
      | none => rw [hc] at hz; cases hz
      | some c =>
        rw [hc] at hz; cases hz
        exact .inr (.inr ⟨_, _, c, rfl, rfl, hl, hc, q G H _ (.refl gh) rfl⟩)
    · cases hz
  · cases hy
    obtain ⟨a, ns, rfl, rfl, h3⟩ := rv_scr (show Rv X.K G _ x from hx)
    obtain ⟨v, k1, k2⟩ := (RvA.ints (K := X.K) (G := G) (ns := ns)).atI hz
    exact .inl ⟨a, _, _, v, rfl, rfl, gh.seq h3, k1, q G H v (.refl gh) k2⟩
  · cases hz
section
variable {X : Cx} {TG : List TbK} {W : WX} {a b e : Expr} {es : List Expr} {da db dc : M Arg} {pos p2 : Pos} {lo hi : Option Expr}
theorem de_ix (ha : DO X TG W a da) (hb : DO X TG W b db) (hs : PlainIx b) : DE X TG W (.Subscript a b pos) (dBin fIx da db) := PE_imp (pe_ix ix_seq ha hb hs) fun s H Q h => tOp_of o_ix h
/-! ### slices -/
abbrev Part := M (Option Int)
def pNo : Part := .ret none
def pAt (d : M PyData) : Part := d.bind fun x => match x with
  | .int i => .ret (some i)
  | _ => .st
def ROI : RL (Option Int) (Option Int) := fun _ a b => a = b
def DP (X : Cx) (TG : List TbK) (W : WX) (e : Option Expr) (d : Part) : Prop := PO X e (rd X.K TG W ROI d)
theorem dp_no : DP X TG W none pNo := ⟨fun pins s σ H Q I h => po_none.run pins s σ H Q I (rd_ret (b := none) (R := ROI) h fun _ => rfl)⟩
theorem dp_at {d : M PyData} (h : DE X TG W e d) : DP X TG W (some e) (pAt d) := ⟨fun pins s σ H Q I q => (po_some h).run pins s σ H Q I (by
  obtain ⟨B, F, G0, G, r, i, p⟩ := rd_bind (R1 := RE X.K) q
  refine ⟨B, F, G0, G, r, i, post_imp (fun x H1 q => ?_) _ p⟩
  obtain ⟨B, F, G0, G1, r1, a, i1, v1, p1⟩ := q
  cases a with
  | int i => exact ⟨i, v1, p1 G1 H1 _ (.refl _) i1 rfl⟩
  | none => exact p1.elim
  | bool _ => exact p1.elim
  | str _ => exact p1.elim
  | list _ => exact p1.elim
  | tuple _ => exact p1.elim
  | dict _ => exact p1.elim)⟩
def cutD (ds : List PyData) (lo hi : Option Int) : List PyData := (ds.drop (HT.sIx ds.length 0 lo)).take (HT.sIx ds.length ds.length hi - HT.sIx ds.length 0 lo)
theorem RvA.cut {K : PySem.W.Frag} {G : Hp} {ds : List PyData} {xs : List V} {lo hi : Option Int} (h : RvA K G ds xs) : RvA K G (cutD ds lo hi) (cutV xs lo hi) := by
  unfold cutD cutV
  rw [h.len]
  exact (h.drop _).take _
def fSl (lo hi : Option Int) : PyData → Option Rz
  | .list ds => some (.l (cutD ds lo hi))
  | .tuple ds => some (.v (.tuple (cutD ds lo hi)))
  | .str z => if z.length ≤ sizeLine then some (.v (.str (cutS z lo hi))) else none
  | _ => none
def xSl (a : M Arg) (lo hi : Part) : M Rz := a.bind fun x => lo.bind fun l => hi.bind fun h r => match reso r x with
  | some d => (M.opt (fSl l h d) : M Rz) r
  | none => .st
theorem dx_sl {dl dh : Part} (ha : DO X TG W a da) (hl : DP X TG W lo dl) (hh : DP X TG W hi dh) : DX X TG W (.Subscript a (.Slice lo hi none p2) pos) (xSl da dl dh) := PE_imp (pe_slice (sl_list.or (sl_tupA.or sl_str)) ha hl hh) fun s H Q h => by
  obtain ⟨B, F, G0, G, r0, i0, p0⟩ := rdX_bind (R1 := RO X.K s) h
  refine ⟨B, F, G0, G, r0, i0, post_imp (fun x H1 q => ?_) _ p0⟩
  obtain ⟨B, F, G0, G1, r1, d, i1, v1, p1⟩ := q
  obtain ⟨B, F, G0, G1, r1, i1, v1, p1⟩ : ∃ B F G0 G r, SR X.K TG B F G0 G H1 r s ∧ RO X.K s G d x ∧ postX X.K TG W B F G0 G s Q ((dl.bind fun l => dh.bind fun h r => match reso r d with
    | some d => (M.opt (fSl l h d) : M Rz) r
    | none => .st) r) := ⟨B, F, G0, G1, r1, i1, v1, p1⟩
  refine ⟨B, F, G0, G1, r1, i1, ?_⟩
  unfold M.bind at p1
  cases hr : dl r1 with
  | ex x r2 => rw [hr] at p1; exact p1
  | st => rw [hr] at p1; exact p1
  | ok l r2 =>
    rw [hr] at p1
    intro G2 H2 l' e2 i2 v2
    have v2 : l = l' := v2
    subst v2
    refine ⟨B, F, G0, G2, r2, i2, ?_⟩
    have p1 : postX X.K TG W B F G0 G1 s Q ((dh r2).bind fun h r => match reso r d with
      | some d => (M.opt (fSl l h d) : M Rz) r
      | none => .st) := p1
    cases hr3 : dh r2 with
    | ex x r3 => rw [hr3] at p1; exact fun G' H' c dx e => p1 G' H' c dx (e2.trans e)
    | st => rw [hr3] at p1; exact p1
    | ok h r3 =>
      rw [hr3] at p1
      intro G3 H3 h' e3 i3 v3
      have v3 : h = h' := v3
      subst v3
      have p1 : postX X.K TG W B F G0 G1 s Q (match reso r3 d with
        | some d => (M.opt (fSl l h d) : M Rz) r3
        | none => .st) := p1
      cases hd : reso r3 d with
      | none => rw [hd] at p1; exact p1.elim
      | some u =>
        have ru := ro_of i3 (v1.mono (e2.trans e3)) hd
        rw [hd] at p1
        have e13 := e2.trans e3
        cases u with
        | list ds =>
          obtain ⟨p, us, rfl, h1, h2⟩ := ru
          refine .inl ⟨p, us, rfl, .inl (.inl h1), fun q hq => ?_⟩
          obtain ⟨i4, fr⟩ := i3.newl hq h2.cut
          exact p1 _ _ _ e13 i4 fr
        | tuple ds =>
          have ru : Rv X.K G3 (.tuple ds) x := ru
          obtain ⟨p, us, rfl, h1, h2⟩ := ru
          refine .inr (.inl ⟨p, us, rfl, same_t i3.gh h1, fun hw => ?_, fun hw q hq => ?_⟩)
          · have e : cutD ds l h = ds := by
              unfold cutD
              rw [h2.len] at hw
              rw [hw.1, hw.2, List.drop_zero]
              simp
            exact p1 G3 H3 _ e13 i3 ⟨p, us, rfl, h1, by rw [e]; exact h2⟩
          · have g := Grow.new i3.gh hq (.tup (cutV us l h)) (fun _ z => by cases z)
            exact p1 _ _ _ (e13.trans g.g) (i3.grow g) ⟨q, _, rfl, .inl (.inl upd_same), (RvA.mono g.g _ _ h2).cut⟩
        | str z =>
          have ru : x = .str z := ru
          have p1 : postX X.K TG W B F G0 G1 s Q ((M.opt (if z.length ≤ sizeLine then some (Rz.v (.str (cutS z l h))) else none) : M Rz) r3) := p1
          split at p1
          · rename_i hz
            exact .inr (.inr ⟨z, ru, hz, p1 G3 H3 _ e13 i3 rfl⟩)
          · exact p1.elim
        | none => exact p1.elim
        | bool _ => exact p1.elim
        | int _ => exact p1.elim
        | dict _ => exact p1.elim

/-! ### built-in functions -/
def resA (r : List Sl) : List Arg → Option (List PyData)
  | [] => some []
  | a :: as => match reso r a, resA r as with
    | some d, some ds => some (d :: ds)
    | _, _ => none
def RoA (K : PySem.W.Frag) (G H : Hp) : List PyData → List V → Prop
  | [], xs => xs = []
  | d :: ds, xs => ∃ x r, xs = x :: r ∧ Ro K G H d x ∧ RoA K G H ds r
theorem roA_of {K : PySem.W.Frag} {TG : List TbK} {B : List (Nat × Addr)} {F G0 G H : Hp} {r : List Sl} {s : L2.St} (i : SR K TG B F G0 G H r s) : ∀ {as : List Arg} {ds : List PyData} {xs : List V}, RArg K s G as xs → resA r as = some ds → RoA K G H ds xs
  | [], _, _, h, e => by cases e; exact h
  | a :: as, ds, xs, h, e => by
    have e : (match reso r a, resA r as with
      | some d, some ds => some (d :: ds)
      | _, _ => none) = some ds := e
    cases h1 : reso r a with
    | none => rw [h1] at e; cases e
    | some d =>
      cases h2 : resA r as with
      | none => rw [h1, h2] at e; cases e
      | some es =>
        rw [h1, h2] at e
        cases e
        cases a with
        | v d' => obtain ⟨x, q, rfl, k1, k2⟩ := h; exact ⟨x, q, rfl, ro_of i (a := .v d') k1 h1, roA_of i k2 h2⟩
        | io j => obtain ⟨x, q, rfl, k1, k2⟩ := h; exact ⟨x, q, rfl, ro_of i (a := .io j) k1 h1, roA_of i k2 h2⟩
def aO (d : M Arg) (r : M (List Arg)) : M (List Arg) := d.bind fun x => r.bind fun xs => .ret (x :: xs)
theorem da_o {d : M Arg} {r : M (List Arg)} (he : DO X TG W e d) (hr : DA X TG W es r) (hs : starEach (e :: es) X.env = (false, eval e X.env) :: starEach es X.env := by rfl) : DA X TG W (e :: es) (aO d r) := PA_imp (pa_cons he hr hs) fun s H Q h => by
  obtain ⟨B, F, G0, G, z, i, p⟩ := rd_bind (R1 := RO X.K s) h
  refine ⟨B, F, G0, G, z, i, post_imp (fun x H1 q => ?_) _ p⟩
  obtain ⟨B, F, G0, G1, r1, a, i1, v1, p1⟩ := q
  refine ⟨B, F, G0, G1, r1, i1, post_imp (fun xs H2 q => ?_) _ (post_bind (R1 := RArg X.K s) _ p1)⟩
  obtain ⟨G2, r2, as, e2, i2, v2, p2⟩ := q
  refine p2 G2 H2 _ (.refl _) i2 ?_
  cases a with
  | v d => exact ⟨x, xs, rfl, Rv.mono e2 _ _ v1, v2⟩
  | io j => exact ⟨x, xs, rfl, v1, v2⟩
/-- a rule for values -/
def OpA (X : Cx) (r : List V → Hp → VK → Prop) (f : List PyData → Option Rz) : Prop :=
  ∀ (ds : List PyData) (z : Rz) (xs : List V) (G H : Hp) (Q : VK), Same G H → f ds = some z → RoA X.K G H ds xs →
    (∀ d', z = .v d' → ∀ G' H' v, Grow G H G' H' → Rv X.K G' d' v → Q v H') → (∀ ds, z = .l ds → ∀ H' p ys, Same H H' → H' p = none → RvA X.K G ds ys → Q (.ref p) (upd H' p (.lst ys))) → r xs H Q
def xFn (f : List PyData → Option Rz) (ra : M (List Arg)) : M Rz := ra.bind fun as r => match resA r as with
  | some ds => (M.opt (f ds) : M Rz) r
  | none => .st
theorem rdX_fn {r : List V → Hp → VK → Prop} {f : List PyData → Option Rz} {ra : M (List Arg)} (hf : OpA X r f) {s : L2.St} {H : Hp} {Q : VK} (h : rdX X.K TG W (xFn f ra) s H Q) : tCB r (fun s H Q => rd X.K TG W (RArg X.K s) ra s H Q) s H Q := by
  obtain ⟨B, F, G0, G, r0, i0, p0⟩ := rdX_bind (R1 := RArg X.K s) h
  refine ⟨B, F, G0, G, r0, i0, post_imp (fun xs H1 q => ?_) _ p0⟩
  obtain ⟨B, F, G0, G1, r1, as, i1, v1, p1⟩ := q
  have p1 : postX X.K TG W B F G0 G1 s Q (match resA r1 as with
    | some ds => (M.opt (f ds) : M Rz) r1
    | none => .st) := p1
  cases hd : resA r1 as with
  | none => rw [hd] at p1; exact p1.elim
  | some ds =>
    rw [hd] at p1
    cases hz : f ds with
    | none => simp only [hz] at p1; exact p1.elim
    | some z =>
      simp only [hz] at p1
      refine hf ds z xs G1 H1 Q i1.gh hz (roA_of i1 v1 hd) (fun d' e G' H' v g rv => ?_) fun es e H' p ys hh hp hv => ?_
      · subst e
        exact p1 G' H' v g.g (i1.grow g) rv
      · subst e
        have i2 := i1.grow ⟨.refl _, hh, i1.gh.trans hh, fun _ _ q => .inl q, fun _ _ q => q⟩
        obtain ⟨i3, fr⟩ := i2.newl hp hv
        exact p1 _ _ _ (.refl _) i3 fr
theorem dx_fnB {id : String} {x : Str} {r : List V → Hp → VK → Prop} {f : List PyData → Option Rz} {ra : M (List Arg)} (hc : CallR X (.builtin id) r) (hf : OpA X r f) (hg : Gl X x) (hm : X.mg x = none) (hv : bootBuiltins x = some (.builtin id)) (ha : DA X TG W (e :: es) ra) (hn : x ≠ "__name__" := by decide) (hdb : (x == ("__debug__" : Str)) = false := by decide)
    (he : starEach (e :: es) X.env = (false, eval e X.env) :: starEach es X.env := by rfl) (hpl : (backTo pos (starEach es X.env)).any (·.1) = false := by rfl) : DX X TG W (.Call (.Name x p2) (e :: es) [] pos) (xFn f ra) := PE_imp (pe_callB hc hg hm hv ha hn hdb he hpl) fun s H Q q => rdX_fn hf q
theorem dx_fnT {T : String} {x : Str} {r : List V → Hp → VK → Prop} {f : List PyData → Option Rz} {ra : M (List Arg)} (hc : CallR X (.type T) r) (hf : OpA X r f) (hg : Gl X x) (hm : X.mg x = none) (hv : bootBuiltins x = some (.type T)) (ha : DA X TG W (e :: es) ra) (hn : x ≠ "__name__" := by decide) (hdb : (x == ("__debug__" : Str)) = false := by decide)
    (he : starEach (e :: es) X.env = (false, eval e X.env) :: starEach es X.env := by rfl) (hpl : (backTo pos (starEach es X.env)).any (·.1) = false := by rfl) : DX X TG W (.Call (.Name x p2) (e :: es) [] pos) (xFn f ra) := PE_imp (pe_callTy hc hg hm hv ha hn hdb he hpl) fun s H Q q => rdX_fn hf q
end
def fLen : List PyData → Option Rz
  | [.list ds] => some (.v (.int ds.length))
  | [.tuple ds] => some (.v (.int ds.length))
  | [.str z] => if z.length ≤ sizeLine then some (.v (.int z.length)) else none
  | [.dict [(.none, .list ds)]] => some (.v (.int ds.length))
  | _ => none
def fTuple : List PyData → Option Rz
  | [.list ds] => some (.v (.tuple ds))
  | [.tuple ds] => some (.v (.tuple ds))
  | _ => none
def fList : List PyData → Option Rz
  | [.list ds] => some (.l ds)
  | [.tuple ds] => some (.l ds)
  | _ => none
def fToInt : List PyData → Option Rz
  | [.int i] => some (.v (.int i))
  | [.bool k] => some (.v (.int (if k then 1 else 0)))
  | [.str a] => match PySem.intText? a with
    | some n => if a.length ≤ 640 then some (.v (.int n)) else none
    | none => none
  | _ => none
def fToStr : List PyData → Option Rz
  | [.int i] => if i.natAbs.log2 < 1920 then some (.v (.str (toString i))) else none
  | [.str a] => some (.v (.str a))
  | _ => none
def fAbs : List PyData → Option Rz
  | [.int i] => some (.v (.int (if i < 0 then -i else i)))
  | _ => none
def intsOf : List PyData → Option (List Int)
  | [] => some []
  | .int i :: ds => (intsOf ds).map (i :: ·)
  | _ => none
def maxI : List Int → Int
  | [] => 0
  | [x] => x
  | x :: y :: r => let m := maxI (y :: r); if m < x then x else m
def minI : List Int → Int
  | [] => 0
  | [x] => x
  | x :: y :: r => let m := minI (y :: r); if x < m then x else m
def fSum : List PyData → Option Rz
  | [.list ds] => (intsOf ds).map fun ns => .v (.int ns.sum)
  | _ => none
def fMax : List PyData → Option Rz
  | [.list ds] => match intsOf ds with
    | some (n :: ns) => some (.v (.int (maxI (n :: ns))))
    | _ => none
  | [.int i, .int j] => some (.v (.int (if j > i then j else i)))
  | _ => none
def fMin : List PyData → Option Rz
  | [.list ds] => match intsOf ds with
    | some (n :: ns) => some (.v (.int (minI (n :: ns))))
    | _ => none
  | [.int i, .int j] => some (.v (.int (if j < i then j else i)))
  | _ => none
theorem maxI_is : ∀ {ns : List Int}, ns ≠ [] → maxI ns ∈ ns ∧ ∀ y ∈ ns, y ≤ maxI ns
  | [], h => absurd rfl h
  | [x], _ => ⟨by simp [maxI], by simp [maxI]⟩
  | x :: y :: r, _ => by
    obtain ⟨h1, h2⟩ := maxI_is (ns := y :: r) (by simp)
    have e : maxI (x :: y :: r) = if maxI (y :: r) < x then x else maxI (y :: r) := rfl
    rw [e]
    by_cases hx : maxI (y :: r) < x
    · rw [if_pos hx]
      refine ⟨List.mem_cons_self, fun z hz => ?_⟩
      rcases List.mem_cons.mp hz with z1 | z1
      · omega
      · have := h2 z z1; omega
    · rw [if_neg hx]
      refine ⟨List.mem_cons_of_mem _ h1, fun z hz => ?_⟩
      rcases List.mem_cons.mp hz with z1 | z1
      · omega
      · exact h2 z z1
theorem minI_is : ∀ {ns : List Int}, ns ≠ [] → minI ns ∈ ns ∧ ∀ y ∈ ns, minI ns ≤ y
  | [], h => absurd rfl h
  | [x], _ => ⟨by simp [minI], by simp [minI]⟩
  | x :: y :: r, _ => by
    obtain ⟨h1, h2⟩ := minI_is (ns := y :: r) (by simp)
    have e : minI (x :: y :: r) = if x < minI (y :: r) then x else minI (y :: r) := rfl
    rw [e]
    by_cases hx : x < minI (y :: r)
    · rw [if_pos hx]
      refine ⟨List.mem_cons_self, fun z hz => ?_⟩
      rcases List.mem_cons.mp hz with z1 | z1
      · omega
      · have := h2 z z1; omega
    · rw [if_neg hx]
      refine ⟨List.mem_cons_of_mem _ h1, fun z hz => ?_⟩
      rcases List.mem_cons.mp hz with z1 | z1
      · omega
      · exact h2 z z1
theorem ints_rv {K : PySem.W.Frag} {G : Hp} : ∀ {ds : List PyData} {ns : List Int} {xs : List V}, intsOf ds = some ns → RvA K G ds xs → xs = ns.map V.int
  | [], ns, xs, e, h => by cases e; exact h
  | .int i :: ds, ns, xs, e, ⟨x, r, h1, h2, h3⟩ => by
    have e : (intsOf ds).map (i :: ·) = some ns := e
    cases q : intsOf ds with
    | none => rw [q] at e; cases e
    | some ms =>
      rw [q] at e
      cases e
      have h2 : x = .int i := h2
      subst h1 h2
      rw [ints_rv q h3]
      rfl
  | .none :: ds, _, _, e, _ => by cases e
  | .bool _ :: ds, _, _, e, _ => by cases e
  | .str _ :: ds, _, _, e, _ => by cases e
  | .list _ :: ds, _, _, e, _ => by cases e
  | .tuple _ :: ds, _, _, e, _ => by cases e
  | .dict _ :: ds, _, _, e, _ => by cases e
section
variable {X : Cx} {K : PySem.W.Frag} {G H : Hp}
theorem RoA.one {d : PyData} {xs : List V} (h : RoA K G H [d] xs) : ∃ x, xs = [x] ∧ Ro K G H d x := by
  obtain ⟨x, r, rfl, h1, h2⟩ := h
  cases h2
  exact ⟨x, rfl, h1⟩
theorem RoA.two {d e : PyData} {xs : List V} (h : RoA K G H [d, e] xs) : ∃ x y, xs = [x, y] ∧ Ro K G H d x ∧ Ro K G H e y := by
  obtain ⟨x, r, rfl, h1, y, r2, rfl, h2, h3⟩ := h
  cases h3
  exact ⟨x, y, rfl, h1, h2⟩
theorem oa_len : OpA X (fun xs H Q => ∃ x n, xs = [x] ∧ LenV X.K x H n ∧ Q (.int n) H) fLen := by
  intro ds z xs G H Q gh hz h qv ql
  unfold fLen at hz
  split at hz
  · cases hz
    obtain ⟨x, rfl, a, ys, rfl, h1, h2⟩ := h.one
    exact ⟨_, _, rfl, .inl ⟨ys, .inl (.inl h1), rfl⟩, by rw [h2.len]; exact qv _ rfl G H _ (.refl gh) rfl⟩
  · cases hz
    obtain ⟨x, rfl, hx⟩ := h.one
    obtain ⟨a, ys, rfl, h1, h2⟩ := (show Rv X.K G (.tuple _) x from hx)
    exact ⟨_, _, rfl, .inr ⟨ys, same_t gh h1, rfl⟩, by rw [h2.len]; exact qv _ rfl G H _ (.refl gh) rfl⟩
  · split at hz
    · rename_i hl
      cases hz
      obtain ⟨x, rfl, hx⟩ := h.one
      cases hx
      exact ⟨_, _, rfl, ⟨hl, rfl⟩, qv _ rfl G H _ (.refl gh) rfl⟩
    · cases hz
  · cases hz
    obtain ⟨x, rfl, hx⟩ := h.one
    obtain ⟨a, ns, rfl, rfl, h3⟩ := rv_scr (show Rv X.K G _ x from hx)
    refine ⟨_, _, rfl, .inl ⟨_, gh.seq h3, rfl⟩, qv _ rfl G H _ (.refl gh) ?_⟩
    simp [Rv]
  · cases hz
theorem oa_tuple : OpA X (fun xs H Q => ∃ p ys, xs = [.ref p] ∧ ((SqL X.K H p ys ∧ ∀ l, H l = none → Q (.ref l) (upd H l (.tup ys))) ∨ (SqT X.K H p ys ∧ Q (.ref p) H))) fTuple := by
  intro ds z xs G H Q gh hz h qv ql
  unfold fTuple at hz
  split at hz
  · cases hz
    obtain ⟨x, rfl, a, ys, rfl, h1, h2⟩ := h.one
    refine ⟨_, ys, rfl, .inl ⟨.inl (.inl h1), fun l hl => ?_⟩⟩
    have g := Grow.new gh hl (.tup ys) (fun _ z => by cases z)
    exact qv _ rfl _ _ _ g ⟨l, ys, rfl, .inl (.inl upd_same), RvA.mono g.g _ _ h2⟩
  · cases hz
    obtain ⟨x, rfl, hx⟩ := h.one
    obtain ⟨a, ys, rfl, h1, h2⟩ := (show Rv X.K G (.tuple _) x from hx)
    exact ⟨_, ys, rfl, .inr ⟨same_t gh h1, qv _ rfl G H _ (.refl gh) ⟨_, _, rfl, h1, h2⟩⟩⟩
  · cases hz
theorem oa_list : OpA X (fun xs H Q => ∃ p ys, xs = [.ref p] ∧ (SqL X.K H p ys ∨ SqT X.K H p ys) ∧ ∀ l, H l = none → Q (.ref l) (upd H l (.lst ys))) fList := by
  intro ds z xs G H Q gh hz h qv ql
  unfold fList at hz
  split at hz
  · cases hz
    obtain ⟨x, rfl, a, ys, rfl, h1, h2⟩ := h.one
    exact ⟨_, ys, rfl, .inl (.inl (.inl h1)), fun l hl => ql _ rfl H l ys (.refl _) hl h2⟩
  · cases hz
    obtain ⟨x, rfl, hx⟩ := h.one
    obtain ⟨a, ys, rfl, h1, h2⟩ := (show Rv X.K G (.tuple _) x from hx)
    exact ⟨_, ys, rfl, .inr (same_t gh h1), fun l hl => ql _ rfl H l ys (.refl _) hl h2⟩
  · cases hz
theorem oa_int : OpA X (fun xs H Q => ((∃ i, xs = [.int i] ∧ Q (.int i) H) ∨ ∃ k, xs = [.bl k] ∧ Q (.int (if k then 1 else 0)) H) ∨ ∃ a n, xs = [.str a] ∧ PySem.intText? a = some n ∧ a.length ≤ 640 ∧ Q (.int n) H) fToInt := by
  intro ds z xs G H Q gh hz h qv ql
  unfold fToInt at hz
  split at hz
  · cases hz
    obtain ⟨x, rfl, hx⟩ := h.one
    cases hx
    exact .inl (.inl ⟨_, rfl, qv _ rfl G H _ (.refl gh) rfl⟩)
  · cases hz
    obtain ⟨x, rfl, hx⟩ := h.one
    cases hx
    exact .inl (.inr ⟨_, rfl, qv _ rfl G H _ (.refl gh) rfl⟩)
  · obtain ⟨x, rfl, hx⟩ := h.one
    cases hx
    split at hz
    · rename_i hn
      split at hz
      · rename_i hl
        cases hz
        exact .inr ⟨_, _, rfl, hn, hl, qv _ rfl G H _ (.refl gh) rfl⟩
      · cases hz
    · cases hz
  · cases hz
theorem oa_str : OpA X (fun xs H Q => (∃ i, xs = [.int i] ∧ i.natAbs.log2 < 1920 ∧ Q (.str (toString i)) H) ∨ ∃ a, xs = [.str a] ∧ Q (.str a) H) fToStr := by
  intro ds z xs G H Q gh hz h qv ql
  unfold fToStr at hz
  split at hz
  · split at hz
    · rename_i hl
      cases hz
      obtain ⟨x, rfl, hx⟩ := h.one
      cases hx
      exact .inl ⟨_, rfl, hl, qv _ rfl G H _ (.refl gh) rfl⟩
    · cases hz
  · cases hz
    obtain ⟨x, rfl, hx⟩ := h.one
    cases hx
    exact .inr ⟨_, rfl, qv _ rfl G H _ (.refl gh) rfl⟩
  · cases hz
theorem oa_abs : OpA X (fun xs H Q => ∃ i, xs = [.int i] ∧ Q (.int (if i < 0 then -i else i)) H) fAbs := by
  intro ds z xs G H Q gh hz h qv ql
  unfold fAbs at hz
  split at hz
  · cases hz
    obtain ⟨x, rfl, hx⟩ := h.one
    cases hx
    exact ⟨_, rfl, qv _ rfl G H _ (.refl gh) rfl⟩
  · cases hz
theorem oa_sum : OpA X (rSum X.K) fSum := by
  intro ds z xs G H Q gh hz h qv ql
  unfold fSum at hz
  split at hz
  · rename_i es
    cases hn : intsOf es with
    | none => rw [hn] at hz; cases hz
    | some ns =>
      rw [hn] at hz
      cases hz
      obtain ⟨x, rfl, a, ys, rfl, h1, h2⟩ := h.one
      have e := ints_rv hn h2
      subst e
      exact ⟨a, ns, rfl, .inl (.inl h1), qv _ rfl G H _ (.refl gh) rfl⟩
  · cases hz
theorem oa_max : OpA X (fun xs H Q => rMax X.K xs H Q ∨ ∃ i j, xs = [.int i, .int j] ∧ Q (.int (if j > i then j else i)) H) fMax := by
  intro ds z xs G H Q gh hz h qv ql
  unfold fMax at hz
  split at hz
  · rename_i es
    split at hz
    · rename_i n ns hn
      cases hz
      obtain ⟨x, rfl, a, ys, rfl, h1, h2⟩ := h.one
      have e := ints_rv hn h2
      subst e
      refine .inl ⟨a, n :: ns, rfl, .inl (.inl h1), by simp, fun m hm hy => ?_⟩
      obtain ⟨k1, k2⟩ := maxI_is (ns := n :: ns) (by simp)
      have e : m = maxI (n :: ns) := by have := hy _ k1; have := k2 _ hm; omega
      rw [e]
      exact qv _ rfl G H _ (.refl gh) rfl
    · cases hz
  · cases hz
    obtain ⟨x, y, rfl, hx, hy⟩ := h.two
    cases hx; cases hy
    exact .inr ⟨_, _, rfl, qv _ rfl G H _ (.refl gh) rfl⟩
  · cases hz
theorem oa_min : OpA X (fun xs H Q => rMin X.K xs H Q ∨ ∃ i j, xs = [.int i, .int j] ∧ Q (.int (if j < i then j else i)) H) fMin := by
  intro ds z xs G H Q gh hz h qv ql
  unfold fMin at hz
  split at hz
  · rename_i es
    split at hz
    · rename_i n ns hn
      cases hz
      obtain ⟨x, rfl, a, ys, rfl, h1, h2⟩ := h.one
      have e := ints_rv hn h2
      subst e
      refine .inl ⟨a, n :: ns, rfl, .inl (.inl h1), by simp, fun m hm hy => ?_⟩
      obtain ⟨k1, k2⟩ := minI_is (ns := n :: ns) (by simp)
      have e : m = minI (n :: ns) := by have := hy _ k1; have := k2 _ hm; omega
      rw [e]
      exact qv _ rfl G H _ (.refl gh) rfl
    · cases hz
  · cases hz
    obtain ⟨x, y, rfl, hx, hy⟩ := h.two
    cases hx; cases hy
    exact .inr ⟨_, _, rfl, qv _ rfl G H _ (.refl gh) rfl⟩
  · cases hz
end
section
variable {X : Cx} {TG : List TbK} {W : WX} {a b e : Expr} {es : List Expr} {ra : M (List Arg)} {pos p2 : Pos}
theorem dx_len (hg : Gl X "len") (hm : X.mg "len" = none) (ha : DA X TG W [e] ra) (he : starEach [e] X.env = (false, eval e X.env) :: starEach [] X.env := by rfl) : DX X TG W (.Call (.Name "len" p2) [e] [] pos) (xFn fLen ra) := dx_fnB call_len oa_len hg hm rfl ha (by decide) (by decide) he
theorem dx_tuple (hg : Gl X "tuple") (hm : X.mg "tuple" = none) (ha : DA X TG W [e] ra) (he : starEach [e] X.env = (false, eval e X.env) :: starEach [] X.env := by rfl) : DX X TG W (.Call (.Name "tuple" p2) [e] [] pos) (xFn fTuple ra) := dx_fnT call_tuple_of oa_tuple hg hm rfl ha (by decide) (by decide) he
theorem dx_list (hg : Gl X "list") (hm : X.mg "list" = none) (ha : DA X TG W [e] ra) (he : starEach [e] X.env = (false, eval e X.env) :: starEach [] X.env := by rfl) : DX X TG W (.Call (.Name "list" p2) [e] [] pos) (xFn fList ra) := dx_fnT call_list_of oa_list hg hm rfl ha (by decide) (by decide) he
theorem dx_int (hg : Gl X "int") (hm : X.mg "int" = none) (ha : DA X TG W [e] ra) (he : starEach [e] X.env = (false, eval e X.env) :: starEach [] X.env := by rfl) : DX X TG W (.Call (.Name "int" p2) [e] [] pos) (xFn fToInt ra) := dx_fnT (call_int1.or call_int_str) oa_int hg hm rfl ha (by decide) (by decide) he
theorem dx_str (hg : Gl X "str") (hm : X.mg "str" = none) (ha : DA X TG W [e] ra) (he : starEach [e] X.env = (false, eval e X.env) :: starEach [] X.env := by rfl) : DX X TG W (.Call (.Name "str" p2) [e] [] pos) (xFn fToStr ra) := dx_fnT (call_str_int.or SkE.call_str_str) oa_str hg hm rfl ha (by decide) (by decide) he
theorem dx_abs (hg : Gl X "abs") (hm : X.mg "abs" = none) (ha : DA X TG W [e] ra) (he : starEach [e] X.env = (false, eval e X.env) :: starEach [] X.env := by rfl) : DX X TG W (.Call (.Name "abs" p2) [e] [] pos) (xFn fAbs ra) := dx_fnB call_abs oa_abs hg hm rfl ha (by decide) (by decide) he
theorem dx_sum (hc : X.calm = true) (hg : Gl X "sum") (hm : X.mg "sum" = none) (ha : DA X TG W [e] ra) (he : starEach [e] X.env = (false, eval e X.env) :: starEach [] X.env := by rfl) : DX X TG W (.Call (.Name "sum" p2) [e] [] pos) (xFn fSum ra) := dx_fnB (cr_sum hc) oa_sum hg hm rfl ha (by decide) (by decide) he
theorem dx_max (hc : X.calm = true) (hg : Gl X "max") (hm : X.mg "max" = none) (ha : DA X TG W (e :: es) ra) (he : starEach (e :: es) X.env = (false, eval e X.env) :: starEach es X.env := by rfl) (hpl : (backTo pos (starEach es X.env)).any (·.1) = false := by rfl) : DX X TG W (.Call (.Name "max" p2) (e :: es) [] pos) (xFn fMax ra) := dx_fnB ((cr_max hc).or (call_max2 hc)) oa_max hg hm rfl ha (by decide) (by decide) he hpl
theorem dx_min (hc : X.calm = true) (hg : Gl X "min") (hm : X.mg "min" = none) (ha : DA X TG W (e :: es) ra) (he : starEach (e :: es) X.env = (false, eval e X.env) :: starEach es X.env := by rfl) (hpl : (backTo pos (starEach es X.env)).any (·.1) = false := by rfl) : DX X TG W (.Call (.Name "min" p2) (e :: es) [] pos) (xFn fMin ra) := dx_fnB ((cr_min hc).or (call_min2 hc)) oa_min hg hm rfl ha (by decide) (by decide) he hpl
end
end TW

end
section
namespace TW
open PySem PySem.Spec PyProof.Rows L2

/-! ### an own list is changed -/
/-- the slot's list -/
def ownAt (r : List Sl) (i : Nat) : Option (List PyData) := r[i]?.bind Sl.own
def setAt (r : List Sl) (i : Nat) (ds : List PyData) : List Sl := match r[i]? with
  | some x => r.set i (x.put ds)
  | none => r
section
variable {K : PySem.W.Frag} {TG : List TbK} {B : List (Nat × Addr)} {F G0 G H : Hp} {r : List Sl} {s : L2.St}
theorem SR.own_at (i : SR K TG B F G0 G H r s) {j : Nat} {ds : List PyData} (h : ownAt r j = some ds) : ∃ a xs, s[j]? = some (some (V.ref a)) ∧ H a = some (.lst xs) ∧ RvA K G ds xs :=
  let ⟨a, xs, h1, h2, h3, _⟩ := i.owns j ds h
  ⟨a, xs, h1, h2, h3⟩
theorem SR.own_set (i : SR K TG B F G0 G H r s) {j : Nat} {ds es : List PyData} {a : Addr} {ys : List V} (h : ownAt r j = some ds) (hs : s[j]? = some (some (V.ref a))) (hv : RvA K G es ys) : SR K TG B F G0 G (upd H a (.lst ys)) (setAt r j es) s := by
  unfold ownAt at h
  unfold setAt
  cases q : r[j]? with
  | none => rw [q] at h; cases h
  | some x => rw [q] at h; exact i.wr q h hs hv
end
/-- x.m(..) of an own list: f says the new list and the answer -/
def mOwn (i : Nat) (f : List PyData → List PyData → Option (List PyData × PyData)) (ra : M (List Arg)) : M PyData := fun r0 => if (ownAt r0 i).isSome then (aBind ra fun es r => match ownAt r i with
  | some ds => match f ds es with
    | some (ds', z) => .ok z (setAt r i ds')
    | none => .st
  | none => .st) r0 else .st
/-- such a method's rule -/
def OwnR (X : Cx) (m : V → List V → Hp → VK → Prop) (f : List PyData → List PyData → Option (List PyData × PyData)) : Prop :=
  ∀ (ds es ds' : List PyData) (z : PyData) (a : Addr) (xs ys : List V) (G H : Hp) (Q : VK), f ds es = some (ds', z) → H a = some (HO.lst xs) → RvA X.K G ds xs → RvA X.K G es ys → (∀ zs v, RvA X.K G ds' zs → Rv X.K G z v → Q v (upd H a (.lst zs))) → m (.ref a) ys H Q
section
variable {X : Cx} {TG : List TbK} {W : WX} {o e : Expr} {es : List Expr} {ra : M (List Arg)} {pos apos px : Pos} {x : Str} {i : Nat}
theorem rd_own {m : V → List V → Hp → VK → Prop} {f : List PyData → List PyData → Option (List PyData × PyData)} (hf : OwnR X m f) {s : L2.St} {H : Hp} {Q : VK} (h : rd X.K TG W (RE X.K) (mOwn i f ra) s H Q) :
    tBM X.K "list" m (tVar i) (fun s H Q => rd X.K TG W (RArg X.K s) ra s H Q) s H Q := by
  obtain ⟨B, F, G0, G, z, ir, p⟩ := h
  unfold mOwn at p
  cases hz : ownAt z i with
  | none => rw [hz] at p; exact p.elim
  | some ds0 =>
    rw [hz] at p
    obtain ⟨a, xs0, h1, h2, _⟩ := ir.own_at hz
    refine ⟨_, h1, .inl ⟨rfl, xs0, .inl (.inl h2)⟩, ?_⟩
    obtain ⟨B, F, G0, G, z, i0, p⟩ := rd_args (⟨B, F, G0, G, z, ir, p⟩ : rd X.K TG W (RE X.K) (aBind ra fun es r => match ownAt r i with
      | some ds => match f ds es with
        | some (ds', z) => .ok z (setAt r i ds')
        | none => .st
      | none => .st) s H Q)
    refine ⟨B, F, G0, G, z, i0, post_imp (fun ys H2 q => ?_) _ p⟩
    obtain ⟨B, F, G0, G1, r1, es, i1, v1, p1⟩ := q
    cases ho : ownAt r1 i with
    | none => simp only [ho] at p1; exact p1.elim
    | some ds =>
      simp only [ho] at p1
      obtain ⟨a', xs, k1, k2, k3⟩ := i1.own_at ho
      rw [h1] at k1
      cases k1
      cases hz : f ds es with
      | none => simp only [hz] at p1; exact p1.elim
      | some w =>
        obtain ⟨ds', z⟩ := w
        simp only [hz] at p1
        exact hf ds es ds' z a xs ys G1 H2 Q hz k2 k3 v1 fun zs v hz hv => p1 G1 _ v (.refl _) (i1.own_set ho h1 hz) hv
def fAppend : List PyData → List PyData → Option (List PyData × PyData)
  | ds, [e] => if ds.length < sizeLine then some (ds ++ [e], .none) else none
  | _, _ => none
def fPop : List PyData → List PyData → Option (List PyData × PyData)
  | ds, [] => (ds[ds.length - 1]?).map fun z => (ds.dropLast, z)
  | _, _ => none
def fPopAt : List PyData → List PyData → Option (List PyData × PyData)
  | ds, [.int i] => if -(2 ^ 63) ≤ i ∧ i < 2 ^ 63 then match seqIndex? i ds.length with
    | some k => (ds[k]?).map fun z => (ds.eraseIdx k, z)
    | none => none else none
  | _, _ => none
def fInsert : List PyData → List PyData → Option (List PyData × PyData)
  | ds, [.int i, e] => if ds.length < sizeLine ∧ 0 ≤ i ∧ i < 2 ^ 63 then some (ds.take i.toNat ++ [e] ++ ds.drop i.toNat, .none) else none
  | _, _ => none
theorem RvA.dropLast {K : PySem.W.Frag} {G : Hp} {ds : List PyData} {xs : List V} (h : RvA K G ds xs) : RvA K G ds.dropLast xs.dropLast := by
  rw [List.dropLast_eq_take, List.dropLast_eq_take, h.len]
  exact h.take _
theorem RvA.erase {K : PySem.W.Frag} {G : Hp} : ∀ (k : Nat) {ds : List PyData} {xs : List V}, RvA K G ds xs → RvA K G (ds.eraseIdx k) (xs.eraseIdx k)
  | _, [], _, h => by cases h; exact rfl
  | 0, d :: ds, _, ⟨x, r, h1, _, h3⟩ => by subst h1; exact h3
  | k + 1, d :: ds, _, ⟨x, r, h1, h2, h3⟩ => by subst h1; exact ⟨x, _, rfl, h2, RvA.erase k h3⟩
theorem or_append : OwnR X rAppend fAppend := by
  intro ds es ds' z a xs ys G H Q hf h1 h2 h3 q
  unfold fAppend at hf
  split at hf
  · split at hf
    · rename_i hz
      cases hf
      obtain ⟨y, r, rfl, k1, k2⟩ := h3
      cases k2
      exact ⟨a, xs, y, rfl, rfl, h1, by rw [h2.len]; exact hz, q _ .non (h2.app (.one k1)) rfl⟩
    · cases hf
  · cases hf
theorem or_pop : OwnR X rPop fPop := by
  intro ds es ds' z a xs ys G H Q hf h1 h2 h3 q
  unfold fPop at hf
  split at hf
  · rename_i es0
    cases hz : ds[ds.length - 1]? with
    | none => rw [hz] at hf; cases hf
    | some y =>
      rw [hz] at hf
      cases hf
      cases h3
      obtain ⟨v, k1, k2⟩ := h2.at hz
      exact ⟨a, xs, v, rfl, rfl, h1, by rw [h2.len]; exact k1, q _ v h2.dropLast k2⟩
  · cases hf
theorem or_popAt : OwnR X rPopAt fPopAt := by
  intro ds es ds' z a xs ys G H Q hf h1 h2 h3 q
  unfold fPopAt at hf
  split at hf
  · split at hf
    · rename_i hi
      split at hf
      · rename_i k hk
        cases hz : ds[k]? with
        | none => rw [hz] at hf; cases hf
        | some y =>
          rw [hz] at hf
          cases hf
          obtain ⟨x, r, rfl, k1, k2⟩ := h3
          cases k1; cases k2
          obtain ⟨v, j1, j2⟩ := h2.at hz
          exact ⟨a, xs, _, k, v, rfl, rfl, h1, hi.1, hi.2, by rw [h2.len]; exact hk, j1, q _ v (h2.erase k) j2⟩
      · cases hf
    · cases hf
  · cases hf
theorem or_insert : OwnR X (fun x vs H Q => ∃ (l : Addr) (xs : List V) (i : Int) (y : V), x = .ref l ∧ vs = [.int i, y] ∧ H l = some (.lst xs) ∧ xs.length < sizeLine ∧ 0 ≤ i ∧ i < 2 ^ 63 ∧
    Q .non (upd H l (.lst (xs.take i.toNat ++ [y] ++ xs.drop i.toNat)))) fInsert := by
  intro ds es ds' z a xs ys G H Q hf h1 h2 h3 q
  unfold fInsert at hf
  split at hf
  · split at hf
    · rename_i hi
      cases hf
      obtain ⟨x, r, rfl, k1, y, r2, rfl, k2, k3⟩ := h3
      cases k1; cases k3
      exact ⟨a, xs, _, y, rfl, rfl, h1, by rw [h2.len]; exact hi.1, hi.2.1, hi.2.2, q _ .non (((h2.take _).app (.one k2)).app (h2.drop _)) rfl⟩
    · cases hf
  · cases hf
theorem de_append (ho : PE X (.Name x px) (tVar i)) (ha : DA X TG W (e :: es) ra) (hbase : attributeBase (.Name x px) "append" X.env (eval (.Name x px) X.env) = eval (.Name x px) X.env := by rfl)
    (hfew : ((backTo pos (starEach (e :: es) X.env)).all (fun x => !x.1) && (backToKw pos (keywordEach [] X.env)).all (fun x => x.1.isSome)
      && decide ((e :: es).length + ([] : List Keyword).length + (if ([] : List Keyword).isEmpty then 0 else 1) < 30)) = true := by rfl)
    (hline : (apos.endLine == pos.line) = true := by rfl) (hs : starEach (e :: es) X.env = (false, eval e X.env) :: starEach es X.env := by rfl) (hplain : (backTo pos (starEach es X.env)).any (·.1) = false := by rfl) :
    DE X TG W (.Call (.Attribute (.Name x px) "append" apos) (e :: es) [] pos) (mOwn i fAppend ra) := PE_imp (pe_bm F.plainAttrs_list F.slot_list_append F.type_list_append mt_append ho ha hbase hfew hline hs hplain) fun s H Q q => rd_own or_append q
theorem de_popAt (ho : PE X (.Name x px) (tVar i)) (ha : DA X TG W (e :: es) ra) (hbase : attributeBase (.Name x px) "pop" X.env (eval (.Name x px) X.env) = eval (.Name x px) X.env := by rfl)
    (hfew : ((backTo pos (starEach (e :: es) X.env)).all (fun x => !x.1) && (backToKw pos (keywordEach [] X.env)).all (fun x => x.1.isSome)
      && decide ((e :: es).length + ([] : List Keyword).length + (if ([] : List Keyword).isEmpty then 0 else 1) < 30)) = true := by rfl)
    (hline : (apos.endLine == pos.line) = true := by rfl) (hs : starEach (e :: es) X.env = (false, eval e X.env) :: starEach es X.env := by rfl) (hplain : (backTo pos (starEach es X.env)).any (·.1) = false := by rfl) :
    DE X TG W (.Call (.Attribute (.Name x px) "pop" apos) (e :: es) [] pos) (mOwn i fPopAt ra) := PE_imp (pe_bm F.plainAttrs_list F.slot_list_pop F.type_list_pop mt_popAt ho ha hbase hfew hline hs hplain) fun s H Q q => rd_own or_popAt q
theorem de_insert (ho : PE X (.Name x px) (tVar i)) (ha : DA X TG W (e :: es) ra) (hbase : attributeBase (.Name x px) "insert" X.env (eval (.Name x px) X.env) = eval (.Name x px) X.env := by rfl)
    (hfew : ((backTo pos (starEach (e :: es) X.env)).all (fun x => !x.1) && (backToKw pos (keywordEach [] X.env)).all (fun x => x.1.isSome)
      && decide ((e :: es).length + ([] : List Keyword).length + (if ([] : List Keyword).isEmpty then 0 else 1) < 30)) = true := by rfl)
    (hline : (apos.endLine == pos.line) = true := by rfl) (hs : starEach (e :: es) X.env = (false, eval e X.env) :: starEach es X.env := by rfl) (hplain : (backTo pos (starEach es X.env)).any (·.1) = false := by rfl) :
    DE X TG W (.Call (.Attribute (.Name x px) "insert" apos) (e :: es) [] pos) (mOwn i fInsert ra) := PE_imp (pe_bm F.plainAttrs_list F.slot_list_insert F.type_list_insert mt_insert ho ha hbase hfew hline hs hplain) fun s H Q q => rd_own or_insert q
theorem de_pop (ho : PE X (.Name x px) (tVar i)) (hbase : attributeBase (.Name x px) "pop" X.env (eval (.Name x px) X.env) = eval (.Name x px) X.env := by rfl) (hline : (apos.endLine == pos.line) = true := by rfl) :
    DE X TG W (.Call (.Attribute (.Name x px) "pop" apos) [] [] pos) (mOwn i fPop aNil) := PE_imp (pe_bm0 F.plainAttrs_list F.slot_list_pop F.type_list_pop mt_pop ho hbase hline) fun s H Q q => by
  obtain ⟨x, h1, h2, h3⟩ := rd_own or_pop q
  exact ⟨x, h1, h2, rd_ret (a := ([] : List Arg)) (b := ([] : List V)) (R := RArg X.K s) h3 fun _ => rfl⟩

/-! ### x[k] = e -/
def putAt (i : Nat) (z k : PyData) : M Fl := fun r => match ownAt r i with
  | some ds => match k with
    | .int k => match ixN ds.length k with
      | some j => .ok .nx (setAt r i (ds.set j z))
      | none => .st
    | _ => .st
  | none => .st
def tPut (i : Nat) (dk : M PyData) (z : PyData) : M Fl := dk.bind (putAt i z)
def sPut (i : Nat) (dk dv : M PyData) : M Fl := dv.bind fun z => tPut i dk z
theorem postS_bind {K : PySem.W.Frag} {α β : Type} {R : RL α β} {D : Ends} {B : List (Nat × Addr)} {F G0 G : Hp} {s : L2.St} {k : α → M Fl} : ∀ (x : Res α), postS K TG W B F G0 G D (x.bind k) →
    post K TG W R B F G0 G s (fun b H1 => ∃ G1 r1 a, Same G G1 ∧ SR K TG B F G0 G1 H1 r1 s ∧ R G1 a b ∧ postS K TG W B F G0 G1 D (k a r1)) x
  | .ok a r, h => fun G' H' b e i z => ⟨G', r, a, e, i, z, postS_mono e _ h⟩
  | .ex e r, h => fun G' H' c dx e' i' x => h G' H' s c dx e' i' x
  | .st, h => h
theorem post_tPut {tk : TE} {dk : M PyData} {B : List (Nat × Addr)} {F G0 G : Hp} {r : List Sl} {s : L2.St} {H : Hp} {D : Ends} {z : PyData} {v : V} (hk : ∀ s H Q, rd X.K TG W (RE X.K) dk s H Q → tk s H Q)
    (ir : SR X.K TG B F G0 G H r s) (hv : Rv X.K G z v) (p : postS X.K TG W B F G0 G D (tPut i dk z r)) (h0 : (ownAt r i).isSome = true) : gSub (tVar i) tk rSetL v s H D.nx := by
  obtain ⟨ds0, h0⟩ := Option.isSome_iff_exists.mp h0
  obtain ⟨a, xs0, h1, h2, _⟩ := ir.own_at h0
  refine ⟨_, h1, hk s H _ ⟨B, F, G0, G, r, ir, post_imp (fun x H1 q => ?_) _ (postS_bind (R := RE X.K) _ p)⟩⟩
  obtain ⟨G1, r1, k, e1, i1, v1, p1⟩ := q
  unfold putAt at p1
  cases ho : ownAt r1 i with
  | none => rw [ho] at p1; exact p1.elim
  | some ds =>
    rw [ho] at p1
    obtain ⟨a', xs, k1, k2, k3⟩ := i1.own_at ho
    rw [h1] at k1
    cases k1
    cases k with
    | int k =>
      have v1 : x = .int k := v1
      have p1 : postS X.K TG W B F G0 G1 D (match ixN ds.length k with
        | some j => .ok .nx (setAt r1 i (ds.set j z))
        | none => .st) := p1
      cases hj : ixN ds.length k with
      | none => rw [hj] at p1; exact p1.elim
      | some j =>
        rw [hj] at p1
        exact ⟨a, xs, k, j, rfl, v1, k2, by rw [k3.len]; exact hj, p1 G1 _ s (.refl _) (i1.own_set ho h1 (k3.set j (Rv.mono e1 _ _ hv)))⟩
    | none => exact p1.elim
    | bool _ => exact p1.elim
    | str _ => exact p1.elim
    | list _ => exact p1.elim
    | tuple _ => exact p1.elim
    | dict _ => exact p1.elim
/-- x[k] = e -/
theorem ds_put {st : Stmt} {te tk : TE} {dk dv : M PyData} (h : PS X st (tAsg te (gSub (tVar i) tk rSetL))) (hv : ∀ s H Q, rd X.K TG W (RE X.K) dv s H Q → te s H Q) (hk : ∀ s H Q, rd X.K TG W (RE X.K) dk s H Q → tk s H Q) :
    DS X TG W st (dv.bind fun z r => if (ownAt r i).isSome then tPut i dk z r else .st) := PS_imp h fun D s H q => by
  refine hv s H _ ?_
  obtain ⟨B, F, G0, G, r, ir, p⟩ := rdS_bind (R := RE X.K) q
  refine ⟨B, F, G0, G, r, ir, post_imp (fun x H1 q => ?_) _ p⟩
  obtain ⟨B, F, G0, G1, r1, z, i1, v1, p1⟩ := q
  split at p1
  · rename_i h0; exact post_tPut hk i1 v1 p1 h0
  · exact p1.elim
def sPutN (i : Nat) (dk dv : M PyData) : M Fl := dv.bind fun z r => if (ownAt r i).isSome then tPut i dk z r else .st
theorem ds_putN {e ke : Expr} {dk dv : M PyData} {spos : Pos} (ho : PE X (.Name x px) (tVar i)) (hv : DE X TG W e dv) (hk : DE X TG W ke dk)
    (ha : ∀ v, assign (.Subscript (.Name x px) ke pos) X.env v = (do
      let ov ← holding [v] (eval (.Name x px) X.env)
      let iv ← holding [v, ov] (eval ke X.env)
      standAt pos
      holding [v, ov, iv] (setItem ov iv v)
      release [v, ov, iv] []) := by intro _; rfl) (hs : swapsWithSole [.Subscript (.Name x px) ke pos] e spos.line X.env = pure false := by rfl) (hw : swappedStores [.Subscript (.Name x px) ke pos] e X.env = pure none := by rfl)
    (h1 : (assignEach [.Subscript (.Name x px) ke pos] X.env).map (·.2) = [assign (.Subscript (.Name x px) ke pos) X.env] := by rfl) :
    DS X TG W (.Assign [.Subscript (.Name x px) ke pos] e spos) (sPutN i dk dv) := ds_put (L2.ps_asg hv (pg_sub ho hk set_list ha) hs hw h1) (fun s H Q q => q) fun s H Q q => q
end
/-! ### x op= e -/
def augV (i : Nat) (f : PyData → PyData → Option PyData) (z : PyData) : M Fl := fun r => match r[i]? with
  | some (.v d) => match f d z with
    | some w => .ok .nx (r.set i (.v w))
    | none => .st
  | _ => .st
def augL (i : Nat) (z : PyData) : M Fl := fun r => match ownAt r i with
  | some ds => match z with
    | .list es => if ds.length + es.length ≤ sizeLine then .ok .nx (setAt r i (ds ++ es)) else .st
    | _ => .st
  | none => .st
/-- x op= e at a name: a value, or an own list -/
def sAug (lst : Bool) (i : Nat) (f : PyData → PyData → Option PyData) (dv : M PyData) : M Fl := fun r0 => match r0[i]? with
  | some (.v _) => (dv.bind (augV i f)) r0
  | some (.l _) => if lst then (dv.bind (augL i)) r0 else .st
  | some (.io _) => if lst then (dv.bind (augL i)) r0 else .st
  | _ => .st
/-- in place: by values -/
def OpI (X : Cx) (lst : Bool) (r : TIp) (f : PyData → PyData → Option PyData) : Prop :=
  (∀ (d e z : PyData) (x y : V) (G H : Hp) (Q : VK), Same G H → f d e = some z → Rv X.K G d x → Rv X.K G e y → (∀ G' H' v, Grow G H G' H' → Rv X.K G' z v → Q v H') → r x y H Q) ∧
  (lst = true → ∀ (x y : V) (H : Hp) (Q : VK), rExt2 x y H Q → r x y H Q)
section
variable {X : Cx} {TG : List TbK} {W : WX} {e : Expr} {pos px : Pos} {x : Str} {i : Nat}
theorem rv_self {K : PySem.W.Frag} {TG : List TbK} {B : List (Nat × Addr)} {F G0 G H : Hp} {r : List Sl} {s : L2.St} (ir : SR K TG B F G0 G H r s) {d : PyData} {v : V} {j : Nat} (h : s[j]? = some (some v)) (hr : r[j]? = some (.v d)) : Rv K G d v := by
  obtain ⟨w, h1, h2⟩ := ir.vals j d hr
  rw [h] at h1
  cases h1
  exact h2
theorem ds_aug {lst : Bool} {op : Operator} {r : TIp} {f : PyData → PyData → Option PyData} {dv : M PyData} (hN : X.N.Nodup) (hi : X.N[i]? = some x) (hx : Loc X.env.scope x) (he : DE X TG W e dv) (ho : OpR X (inplaceOp op) r) (hf : OpI X lst r f) (hl : X.fn x = true ∨ X.env.scope.names.lookup x = some .local) :
    DS X TG W (.AugAssign (.Name x px) op e pos) (sAug lst i f dv) := PS_imp (L2.ps_aug hN hi hx he ho hl) fun D s H q => by
  obtain ⟨B, F, G0, G, z, ir, p⟩ := q
  unfold sAug at p
  have own : lst = true → ∀ ds, ownAt z i = some ds → postS X.K TG W B F G0 G D ((dv.bind (augL i)) z) → tAug i (rd X.K TG W (RE X.K) dv) r D s H := fun hlst ds h p => by
    obtain ⟨a, xs, h1, h2, h3⟩ := ir.own_at h
    refine ⟨_, h1, B, F, G0, G, z, ir, post_imp (fun y H1 q => ?_) _ (postS_bind (R := RE X.K) _ p)⟩
    obtain ⟨G1, r1, k, e1, i1, v1, p1⟩ := q
    unfold augL at p1
    cases hr : ownAt r1 i with
    | none => rw [hr] at p1; exact p1.elim
    | some ds =>
      rw [hr] at p1
      obtain ⟨a', us, k1, k2, k3⟩ := i1.own_at hr
      rw [h1] at k1
      cases k1
      cases k with
      | list es =>
        have p1 : postS X.K TG W B F G0 G1 D (if ds.length + es.length ≤ sizeLine then .ok .nx (setAt r1 i (ds ++ es)) else .st) := p1
        split at p1
        · rename_i hz
          obtain ⟨b, ws, rfl, j1, j2⟩ := v1
          refine hf.2 hlst _ _ _ _ ⟨a, b, us, ws, rfl, rfl, k2, i1.gh _ _ j1, by rw [k3.len, j2.len]; exact hz, ?_⟩
          have sv : s.set i (some (V.ref a)) = s := by
            refine List.ext_getElem? fun k => ?_
            by_cases e : i = k
            · subst e
              rw [List.getElem?_set_self (List.getElem?_eq_some_iff.mp h1).1, h1]
            · rw [List.getElem?_set_ne e]
          show D.nx (List.set s i (some (V.ref a))) _
          rw [sv]
          exact p1 G1 _ s (.refl _) (i1.own_set hr h1 (k3.app j2))
        · exact p1.elim
      | none => exact p1.elim
      | bool _ => exact p1.elim
      | str _ => exact p1.elim
      | int _ => exact p1.elim
      | tuple _ => exact p1.elim
      | dict _ => exact p1.elim
  split at p
  · rename_i d hd
    obtain ⟨v, h1, h2⟩ := ir.vals i d hd
    refine ⟨v, h1, B, F, G0, G, z, ir, post_imp (fun y H1 q => ?_) _ (postS_bind (R := RE X.K) _ p)⟩
    obtain ⟨G1, r1, k, e1, i1, v1, p1⟩ := q
    unfold augV at p1
    split at p1
    · rename_i d' hd'
      have hv := rv_self i1 h1 hd'
      split at p1
      · rename_i w hw
        refine hf.1 d' k w v y G1 H1 _ i1.gh hw hv v1 fun G' H' u g rv => ?_
        have hj : i < r1.length := (List.getElem?_eq_some_iff.mp hd').1
        exact p1 G' H' _ g.g ((i1.grow g).setv hj (fun ds z => by rw [hd'] at z; cases z) rv)
      · exact p1.elim
    · exact p1.elim
  · rename_i ds hd
    split at p
    · rename_i hlst; exact own hlst ds (by unfold ownAt; rw [hd]; rfl) p
    · exact p.elim
  · rename_i ds hd
    split at p
    · rename_i hlst; exact own hlst ds (by unfold ownAt; rw [hd]; rfl) p
    · exact p.elim
  · exact p.elim
def gAdd : PyData → PyData → Option PyData
  | .int i, .int j => some (.int (i + j))
  | .str x, .str y => if x.length + y.length ≤ sizeLine then some (.str (x ++ y)) else none
  | _, _ => none
theorem oi_add : OpI X true (fun x y H Q => ((rI0 fun i j => .int (i + j)) x y H Q ∨ (∃ i j, x = .str i ∧ y = .str j ∧ i.length + j.length ≤ sizeLine ∧ Q (.str (i ++ j)) H)) ∨ rExt2 x y H Q) gAdd := by
  refine ⟨fun d e z x y G H Q gh hz hx hy q => ?_, fun _ x y H Q h => .inr h⟩
  unfold gAdd at hz
  split at hz
  · cases hz; cases hx; cases hy
    exact .inl (.inl ⟨_, _, rfl, rfl, q G H _ (.refl gh) rfl⟩)
  · split at hz
    · rename_i hl
      cases hz; cases hx; cases hy
      exact .inl (.inr ⟨_, _, rfl, rfl, hl, q G H _ (.refl gh) rfl⟩)
    · cases hz
  · cases hz
theorem oi_int {C : Int → Int → Prop} {c : Int → Int → Bool} {g : Int → Int → Int} (hc : ∀ i j, c i j = true → C i j) : OpI X false (rI C fun i j => .int (g i j)) (fInt c g) := by
  refine ⟨fun d e z x y G H Q gh hz hx hy q => ?_, fun h => by cases h⟩
  unfold fInt at hz
  split at hz
  · split at hz
    · rename_i h
      cases hz; cases hx; cases hy
      exact ⟨_, _, rfl, rfl, hc _ _ h, q G H _ (.refl gh) rfl⟩
    · cases hz
  · cases hz
theorem oi_sub : OpI X false (rI0 fun i j => .int (i - j)) fSub := by
  refine ⟨fun d e z x y G H Q gh hz hx hy q => ?_, fun h => by cases h⟩
  unfold fSub fInt at hz
  split at hz
  · cases hz; cases hx; cases hy
    exact ⟨_, _, rfl, rfl, q G H _ (.refl gh) rfl⟩
  · cases hz
def gMul := fInt (fun i j => decide ((-(2 ^ 64) < i ∧ i < 2 ^ 64) ∨ (-(2 ^ 64) < j ∧ j < 2 ^ 64))) (· * ·)
theorem oi_mul : OpI X false (rI CMul fun i j => .int (i * j)) gMul := oi_int fun i j h => (of_decide_eq_true h : (-(2 ^ 64) < i ∧ i < 2 ^ 64) ∨ (-(2 ^ 64) < j ∧ j < 2 ^ 64))
theorem ds_iadd {dv : M PyData} (hN : X.N.Nodup) (hi : X.N[i]? = some x) (hx : Loc X.env.scope x) (he : DE X TG W e dv) (hl : X.fn x = true ∨ X.env.scope.names.lookup x = some .local) : DS X TG W (.AugAssign (.Name x px) .Add e pos) (sAug true i gAdd dv) := ds_aug hN hi hx he ((iop_add.or iop_add_str).or iop_ext) oi_add hl
theorem ds_isub {dv : M PyData} (hN : X.N.Nodup) (hi : X.N[i]? = some x) (hx : Loc X.env.scope x) (he : DE X TG W e dv) (hl : X.fn x = true ∨ X.env.scope.names.lookup x = some .local) : DS X TG W (.AugAssign (.Name x px) .Sub e pos) (sAug false i fSub dv) := ds_aug hN hi hx he iop_sub oi_sub hl
theorem ds_imul {dv : M PyData} (hN : X.N.Nodup) (hi : X.N[i]? = some x) (hx : Loc X.env.scope x) (he : DE X TG W e dv) (hl : X.fn x = true ∨ X.env.scope.names.lookup x = some .local) : DS X TG W (.AugAssign (.Name x px) .Mult e pos) (sAug false i gMul dv) := ds_aug hN hi hx he iop_mul oi_mul hl
end

/-! ### x.index(e), by values -/
def idxOf (d : PyData) : List PyData → Nat → Option Nat
  | [], _ => none
  | z :: ds, j => if PyData.eqv z d then some j else idxOf d ds (j + 1)
def fIndex : PyData → List PyData → Option PyData
  | .list ds, [d] => if SeqAt.shaped (.list ds) && SeqAt.shaped d then (idxOf d ds 0).map fun j => .int (j : Nat) else none
  | _, _ => none
theorem idxOf_is {d : PyData} : ∀ {ds : List PyData} {k j : Nat}, idxOf d ds k = some j → k ≤ j ∧ ∃ z, ds[j - k]? = some z ∧ PyData.eqv z d = true ∧ ∀ (m : Nat) (z' : PyData), m < j - k → ds[m]? = some z' → PyData.eqv z' d = false
  | [], k, j, h => by cases h
  | z :: ds, k, j, h => by
    unfold idxOf at h
    by_cases e : PyData.eqv z d = true
    · rw [if_pos e] at h
      cases h
      exact ⟨Nat.le_refl _, z, by simp, e, fun m z' hm => by omega⟩
    · rw [if_neg e] at h
      obtain ⟨h1, z2, h2, h3, h4⟩ := idxOf_is h
      refine ⟨by omega, z2, ?_, h3, fun m z' hm hz => ?_⟩
      · rw [show j - k = (j - (k + 1)) + 1 by omega]
        simpa using h2
      · cases m with
        | zero => simp at hz; subst hz; simpa using e
        | succ m => exact h4 m z' (by omega) (by simpa using hz)
/-- a method of a value, by values -/
def mVal (f : PyData → List PyData → Option PyData) (o : M Arg) (ra : M (List Arg)) : M PyData := o.bind fun x => ra.bind fun as r => match reso r x, resA r as with
  | some d, some ds => (M.opt (f d ds) : M PyData) r
  | _, _ => .st
section
variable {X : Cx} {TG : List TbK} {W : WX} {o e : Expr} {es : List Expr} {ra : M (List Arg)} {pos apos px : Pos} {x : Str} {i : Nat} {dob : M Arg}
def ValR (X : Cx) (T : String) (m : V → List V → Hp → VK → Prop) (f : PyData → List PyData → Option PyData) : Prop :=
  ∀ (d : PyData) (es : List PyData) (z : PyData) (x : V) (ys : List V) (G H : Hp) (Q : VK), Same G H → f d es = some z → Ro X.K G H d x → RoA X.K G H es ys → (∀ G' H' v, Grow G H G' H' → Rv X.K G' z v → Q v H') → m x ys H Q
/-- a value's type -/
def tyD : PyData → String
  | .str _ => "str"
  | .list _ => "list"
  | .int _ => "int"
  | _ => ""
def mValT (T : String) (f : PyData → List PyData → Option PyData) (o : M Arg) (ra : M (List Arg)) : M PyData := o.bind fun x r0 => match reso r0 x with
  | some d0 => if tyD d0 = T then (ra.bind fun as r => match reso r x, resA r as with
    | some d, some ds => (M.opt (f d ds) : M PyData) r
    | _, _ => .st) r0 else .st
  | none => .st
theorem ty_of {K : PySem.W.Frag} {G H : Hp} {d : PyData} {x : V} {T : String} (h : Ro K G H d x) (e : tyD d = T) (n : T ≠ "") : tyV K T x H := by
  subst e
  cases d with
  | str z => cases h; rfl
  | int z => cases h; rfl
  | list ds => obtain ⟨a, xs, rfl, h1, h2⟩ := h; exact .inl ⟨rfl, xs, .inl (.inl h1)⟩
  | none => exact absurd rfl n
  | bool _ => exact absurd rfl n
  | tuple _ => exact absurd rfl n
  | dict _ => exact absurd rfl n
theorem rd_val {T : String} {m : V → List V → Hp → VK → Prop} {f : PyData → List PyData → Option PyData} (hT : T ≠ "") (hf : ValR X T m f) {s : L2.St} {H : Hp} {Q : VK} (h : rd X.K TG W (RE X.K) (mValT T f dob ra) s H Q) :
    tBM X.K T m (fun s H Q => rd X.K TG W (RO X.K s) dob s H Q) (fun s H Q => rd X.K TG W (RArg X.K s) ra s H Q) s H Q := by
  obtain ⟨B, F, G0, G, r0, i0, p0⟩ := rd_bind (R1 := RO X.K s) h
  refine ⟨B, F, G0, G, r0, i0, post_imp (fun x H1 q => ?_) _ p0⟩
  obtain ⟨B, F, G0, G1, r1, a, i1, v1, p1⟩ := q
  cases hd : reso r1 a with
  | none => simp only [hd] at p1; exact p1.elim
  | some d0 =>
    simp only [hd] at p1
    split at p1
    · rename_i hty
      refine ⟨ty_of (ro_of i1 v1 hd) hty hT, B, F, G0, G1, r1, i1, post_imp (fun ys H2 q => ?_) _ (post_bind (R1 := RArg X.K s) _ p1)⟩
      obtain ⟨G2, r2, as, e2, i2, v2, p2⟩ := q
      cases hd2 : reso r2 a with
      | none => simp only [hd2] at p2; exact p2.elim
      | some d =>
        cases ha2 : resA r2 as with
        | none => simp only [hd2, ha2] at p2; exact p2.elim
        | some ds =>
          simp only [hd2, ha2] at p2
          cases hz : f d ds with
          | none => simp only [hz] at p2; exact p2.elim
          | some z =>
            simp only [hz] at p2
            exact hf d ds z x ys G2 H2 Q i2.gh hz (ro_of i2 (v1.mono e2) hd2) (roA_of i2 v2 ha2) fun G' H' v g rv => p2 G' H' v g.g (i2.grow g) rv
    · exact p1.elim
theorem vr_index : ValR X "list" (rIndexD X.K) fIndex := by
  intro d es z x ys G H Q gh hf hx hy q
  unfold fIndex at hf
  split at hf
  · split at hf
    · rename_i ds e hs
      rw [Bool.and_eq_true] at hs
      cases hj : idxOf e ds 0 with
      | none => rw [hj] at hf; cases hf
      | some j =>
        rw [hj] at hf
        cases hf
        obtain ⟨y, rfl, hy1⟩ := hy.one
        obtain ⟨_, w, k2, k3, k4⟩ := idxOf_is hj
        have hdp := Ro.dp gh hs.1 hx
        obtain ⟨a, xs, rfl, h1, h2⟩ := hx
        exact ⟨a, y, e, ds, j, w, rfl, rfl, hdp, Ro.dp gh hs.2 hy1, hs.1, hs.2, by simpa using k2, k3, fun m z' hm => k4 m z' (by omega), q G H _ (.refl gh) rfl⟩
    · cases hf
  · cases hf
theorem de_index (hu : X.A.units + 65 < cLine) (ho : DO X TG W o dob) (ha : DA X TG W (e :: es) ra) (hbase : attributeBase o "index" X.env (eval o X.env) = eval o X.env := by rfl)
    (hfew : ((backTo pos (starEach (e :: es) X.env)).all (fun x => !x.1) && (backToKw pos (keywordEach [] X.env)).all (fun x => x.1.isSome)
      && decide ((e :: es).length + ([] : List Keyword).length + (if ([] : List Keyword).isEmpty then 0 else 1) < 30)) = true := by rfl)
    (hline : (apos.endLine == pos.line) = true := by rfl) (hs : starEach (e :: es) X.env = (false, eval e X.env) :: starEach es X.env := by rfl) (hplain : (backTo pos (starEach es X.env)).any (·.1) = false := by rfl) :
    DE X TG W (.Call (.Attribute o "index" apos) (e :: es) [] pos) (mValT "list" fIndex dob ra) := PE_imp (pe_bm F.plainAttrs_list F.slot_list_index F.type_list_index (mt_indexD hu) ho ha hbase hfew hline hs hplain) fun s H Q q => rd_val (by decide) vr_index q
end
end TW

end
section
namespace TW
open PySem PySem.Spec PyProof.Rows L2

/-! ### isinstance -/
def tyN : PyData → String
  | .none => "NoneType"
  | .bool _ => "bool"
  | .int _ => "int"
  | .str _ => "str"
  | .list _ => "list"
  | .tuple _ => "tuple"
  | .dict [(.none, _)] => "list"
  | .dict _ => "dict"
def isB (T : String) (d : PyData) : Bool := tyN d == T || (T == "int" && tyN d == "bool")
theorem tyN_scr {kvs : List (PyData × PyData)} {ns : List Int} (h : PyData.dict kvs = scr ns) : tyN (.dict kvs) = "list" := by rw [h]; rfl
theorem tyN_dict {K : PySem.W.Frag} {G : Hp} {kvs : List (PyData × PyData)} {ks : List (Key × V)} (h : RvD K G kvs ks) : tyN (.dict kvs) = "dict" := by
  match kvs, h with
  | [], _ => rfl
  | [(.none, _)], ⟨x, r, _, h2, _⟩ => cases h2.1
  | [(.bool _, _)], _ => rfl
  | [(.int _, _)], _ => rfl
  | [(.str _, _)], _ => rfl
  | [(.list _, _)], _ => rfl
  | [(.tuple _, _)], _ => rfl
  | [(.dict _, _)], _ => rfl
  | (.none, _) :: _ :: _, ⟨x, r, _, h2, _⟩ => cases h2.1
  | (.bool _, _) :: _ :: _, _ => rfl
  | (.int _, _) :: _ :: _, _ => rfl
  | (.str _, _) :: _ :: _, _ => rfl
  | (.list _, _) :: _ :: _, _ => rfl
  | (.tuple _, _) :: _ :: _, _ => rfl
  | (.dict _, _) :: _ :: _, _ => rfl
theorem tyx_of {K : PySem.W.Frag} {G H : Hp} {d : PyData} {x : V} (e : Same G H) (h : Ro K G H d x) : TyX K H x (.type (tyN d)) := by
  cases d with
  | none => cases h; exact .base .non
  | bool b => cases h; exact .base (.bl b)
  | int b => cases h; exact .base (.int b)
  | str b => cases h; exact .base (.str b)
  | list ds => obtain ⟨a, xs, rfl, h1, h2⟩ := h; exact .base (.lst h1)
  | tuple ds =>
    obtain ⟨a, xs, rfl, h1, h2⟩ := (show Rv K G (.tuple ds) x from h)
    rcases same_t e h1 with (h | ⟨o, h⟩) | ⟨o, its, n, h, hc, _⟩
    · exact .base (.tup h)
    · exact .fTuple h
    · exact .kTuple h hc
  | dict kvs =>
    have h : Rv K G (.dict kvs) x := h
    unfold Rv at h
    rcases h with ⟨a, ns, h1, rfl, h2⟩ | ⟨a, ks, rfl, h1, h2⟩
    · rw [tyN_scr h1]
      rcases e.seq h2 with (h | ⟨o, h⟩) | ⟨o, its, n, h, hc, _⟩
      · exact .base (.lst h)
      · exact .base (.frz h)
      · exact .kList h hc
    · rw [tyN_dict h2]
      exact .base (.dK (e _ _ h1))
/-- the six types -/
structure IsT (T : String) : Prop where
  kit : ∀ (K : PySem.W.Frag) (d : PyData), PySem.W.kitOne K (.type (tyN d)) (.type T) = some (isB T d)
theorem tyN_in (d : PyData) : tyN d = "NoneType" ∨ tyN d = "bool" ∨ tyN d = "int" ∨ tyN d = "str" ∨ tyN d = "list" ∨ tyN d = "tuple" ∨ tyN d = "dict" := by
  unfold tyN
  split <;> simp
theorem isT_int : IsT "int" := ⟨fun K d => by unfold isB; rcases tyN_in d with h | h | h | h | h | h | h <;> rw [h] <;> rfl⟩
theorem isT_bool : IsT "bool" := ⟨fun K d => by unfold isB; rcases tyN_in d with h | h | h | h | h | h | h <;> rw [h] <;> rfl⟩
theorem isT_str : IsT "str" := ⟨fun K d => by unfold isB; rcases tyN_in d with h | h | h | h | h | h | h <;> rw [h] <;> rfl⟩
theorem isT_list : IsT "list" := ⟨fun K d => by unfold isB; rcases tyN_in d with h | h | h | h | h | h | h <;> rw [h] <;> rfl⟩
theorem isT_tuple : IsT "tuple" := ⟨fun K d => by unfold isB; rcases tyN_in d with h | h | h | h | h | h | h <;> rw [h] <;> rfl⟩
theorem isT_dict : IsT "dict" := ⟨fun K d => by unfold isB; rcases tyN_in d with h | h | h | h | h | h | h <;> rw [h] <;> rfl⟩
def dIsi (T : String) (o : M Arg) : M PyData := o.bind fun x r => match reso r x with
  | some d => .ok (.bool (isB T d)) r
  | none => .st
def dIsi2 (T U : String) (o : M Arg) : M PyData := o.bind fun x r => match reso r x with
  | some d => .ok (.bool (isB T d || isB U d)) r
  | none => .st
section
variable {X : Cx} {TG : List TbK} {W : WX} {e : Expr} {dob : M Arg} {pos p2 p3 p4 p5 : Pos} {T U : String} {x y : Str} {k : Nat}
theorem bl_isinstance : bootBuiltins "isinstance" = some (.builtin "isinstance") := by rfl
theorem de_isi (t : IsT T) (hg : Gl X "isinstance") (hm : X.mg "isinstance" = none) (hg2 : Gl X x) (hm2 : X.mg x = none) (hv : bootBuiltins x = some (.type T)) (ho : DO X TG W e dob) (hn : x ≠ "__name__" := by decide) (hdb : (x == ("__debug__" : Str)) = false := by decide)
    (he : starEach [e, .Name x p3] X.env = (false, eval e X.env) :: starEach [.Name x p3] X.env := by rfl) (he2 : starEach [.Name x p3] X.env = (false, eval (.Name x p3) X.env) :: starEach [] X.env := by rfl) (hpl : (backTo pos (starEach [.Name x p3] X.env)).any (·.1) = false := by rfl) :
    DE X TG W (.Call (.Name "isinstance" p2) [e, .Name x p3] [] pos) (dIsi T dob) :=
  PE_imp (pe_callB call_isi hg hm bl_isinstance (pa_cons ho (pa_cons (pe_bltn (v := .ty T) hg2 hm2 hv rfl hn hdb) pa_nil he2) he) (by decide) (by decide) he hpl) fun s H Q h => by
  obtain ⟨B, F, G0, G, r0, i0, p0⟩ := rd_bind (R1 := RO X.K s) h
  refine ⟨B, F, G0, G, r0, i0, post_imp (fun x H1 q => ?_) _ p0⟩
  obtain ⟨B, F, G0, G1, r1, a, i1, v1, p1⟩ := q
  cases hd : reso r1 a with
  | none => simp only [hd] at p1; exact p1.elim
  | some d =>
    simp only [hd] at p1
    exact ⟨x, .ty T, _, _, _, rfl, .ty T, tyx_of i1.gh (ro_of i1 v1 hd), t.kit X.K d, p1 G1 H1 _ (.refl _) i1 rfl⟩
theorem de_isi2 (t : IsT T) (u : IsT U) (hg : Gl X "isinstance") (hm : X.mg "isinstance" = none) (hg2 : Gl X x) (hm2 : X.mg x = none) (hv : bootBuiltins x = some (.type T)) (hg3 : Gl X y) (hm3 : X.mg y = none) (hv3 : bootBuiltins y = some (.type U)) (ho : DO X TG W e dob)
    (hn : x ≠ "__name__" := by decide) (hdb : (x == ("__debug__" : Str)) = false := by decide) (hn3 : y ≠ "__name__" := by decide) (hdb3 : (y == ("__debug__" : Str)) = false := by decide)
    (he : starEach [e, .Tuple [.Name x p3, .Name y p4] k p5] X.env = (false, eval e X.env) :: starEach [.Tuple [.Name x p3, .Name y p4] k p5] X.env := by rfl) (he2 : starEach [.Tuple [.Name x p3, .Name y p4] k p5] X.env = (false, eval (.Tuple [.Name x p3, .Name y p4] k p5) X.env) :: starEach [] X.env := by rfl)
    (he3 : starEach [.Name x p3, .Name y p4] X.env = (false, eval (.Name x p3) X.env) :: starEach [.Name y p4] X.env := by rfl) (he4 : starEach [.Name y p4] X.env = (false, eval (.Name y p4) X.env) :: starEach [] X.env := by rfl)
    (hpl : (backTo pos (starEach [.Tuple [.Name x p3, .Name y p4] k p5] X.env)).any (·.1) = false := by rfl) :
    DE X TG W (.Call (.Name "isinstance" p2) [e, .Tuple [.Name x p3, .Name y p4] k p5] [] pos) (dIsi2 T U dob) :=
  PE_imp (pe_callB call_isiT hg hm bl_isinstance (pa_cons ho (pa_cons (pe_tup (pa_cons (pe_bltn (v := .ty T) hg2 hm2 hv rfl hn hdb) (pa_cons (pe_bltn (v := .ty U) hg3 hm3 hv3 rfl hn3 hdb3) pa_nil he4) he3)) pa_nil he2) he) (by decide) (by decide) he hpl) fun s H Q h => by
  obtain ⟨B, F, G0, G, r0, i0, p0⟩ := rd_bind (R1 := RO X.K s) h
  refine ⟨B, F, G0, G, r0, i0, post_imp (fun x H1 q => ?_) _ p0⟩
  obtain ⟨B, F, G0, G1, r1, a, i1, v1, p1⟩ := q
  cases hd : reso r1 a with
  | none => simp only [hd] at p1; exact p1.elim
  | some d =>
    simp only [hd] at p1
    refine ⟨by rw [sizeLine_eq]; show 2 ≤ 16777216; decide, fun p hp => ?_⟩
    have g := Grow.new i1.gh hp (.tup [.ty T, .ty U]) (fun _ z => by cases z)
    have i2 := i1.grow (grow_out i1.gh hp (o := .tup [.ty T, .ty U]))
    refine ⟨x, p, [.ty T, .ty U], _, _, _, rfl, upd_same, .cons (.ty T) (.cons (.ty U) .nil), tyx_of i2.gh (ro_of i2 v1 hd), ?_, p1 G1 _ _ (.refl _) i2 rfl⟩
    have e1 := t.kit X.K d
    have e2 := u.kit X.K d
    show (match PySem.W.kitOne X.K (.type (tyN d)) (.type T) with
      | some true => some true
      | some false => (match PySem.W.kitOne X.K (.type (tyN d)) (.type U) with
        | some true => some true
        | some false => some false
        | none => none)
      | none => none) = _
    rw [e1, e2]
    cases isB T d <;> cases isB U d <;> rfl
end
end TW

end
section
namespace TW
open PySem PySem.Spec PyProof.Rows L2 GenW

/-! ### generator expressions that all or any takes -/
/-- the context of a generator expression's body -/
abbrev gcx (X : Cx) (A : Around) (s : Shared) (H : Hp) (env : Env) (fp : List Addr) (pn : List (Addr × Obj)) : Cx := { X with A := A.deeper env, s_0 := s, H_0 := H, env := env, outer := X.stack, stack := env :: X.stack, ex := fp, fn := fun _ => false, pn := pn, xe := fun _ _ => False }
/-- its names: its own ones with their places in N, captured ones -/
structure GnS (N : List Str) (sc scope : Scope) (own : List (Str × Nat)) : Prop where
  kind : scope.kind = .function
  co : scope.isCoroutine = false
  cell : ∀ y ∈ scope.names, y.2 ≠ .cell
  dot : scope.names.lookup (".0" : Str) = some NameKind.local
  free : ∀ y ∈ scope.names, y.2 = .free → sc.names.lookup y.1 = some .cell ∨ sc.names.lookup y.1 = some .free
  ix : ∀ p ∈ own, N[p.2]? = some p.1
  own : ∀ y ∈ scope.names, y.2 = .local → y.1 ∈ own.map (·.1) ∨ y.1 ∉ N
def gnB (N : List Str) (sc scope : Scope) (own : List (Str × Nat)) : Bool :=
  decide (scope.kind = .function) && !scope.isCoroutine && (scope.names.all fun y => !decide (y.2 = .cell)) && decide (scope.names.lookup (".0" : Str) = some NameKind.local) &&
    (scope.names.all fun y => !decide (y.2 = .free) || decide (sc.names.lookup y.1 = some .cell) || decide (sc.names.lookup y.1 = some .free)) && (own.all fun p => decide (N[p.2]? = some p.1)) &&
    (scope.names.all fun y => !decide (y.2 = .local) || decide (y.1 ∈ own.map (·.1)) || decide (y.1 ∉ N))
theorem gnS_by {N : List Str} {sc scope : Scope} {own : List (Str × Nat)} (h : gnB N sc scope own = true) : GnS N sc scope own := by
  unfold gnB at h
  simp only [Bool.and_eq_true, Bool.or_eq_true, Bool.not_eq_true', decide_eq_true_eq, decide_eq_false_iff_not, List.all_eq_true] at h
  obtain ⟨⟨⟨⟨⟨⟨h1, h2⟩, h3⟩, h4⟩, h5⟩, h6⟩, h7⟩ := h
  refine ⟨h1, h2, h3, h4, fun y hy e => ?_, h6, fun y hy e => ?_⟩
  · rcases h5 y hy with (z | z) | z
    · exact absurd e z
    · exact .inl z
    · exact .inr z
  · rcases h7 y hy with (z | z) | z
    · exact absurd e z
    · exact .inl z
    · exact .inr z
abbrev gnEnv (X : Cx) (scope : Scope) (C : Addr) (code : Value) : Env := genEnv scope (cloFrom X.env.cells scope.names []) C code builtinsNs X.env
section
variable {X : Cx} {pins : List (Addr × Obj)} {σ : L2.St} {H : Hp} {s : Shared}
theorem gen_start {A : Around} {scope : Scope} {own : List (Str × Nat)} {fp : List Addr} {code it : Value} {h' : Heap} {tk : Nat} {gens' : Array GenState} {go : Obj} (I : Inv X pins σ H s) (ok : GnS X.N X.env.scope scope own) (hN : X.N.Nodup)
    (hfp : ∀ b ∈ fp, FpOk X pins H b ∧ b < s.heap.objs.size) (hA : A.handled = none) (hfr : A.frames = some X.stack) (hn : h'.Ns s.heap.objs.size (fun y => if y = ".0" then some it else none)) (kp : ∀ b o, s.heap.get? b = some o → h'.get? b = some o)
    (hsz : h'.objs.size = s.heap.objs.size + 1) (hb : AllBare gens') (hgo : ∀ v, go.data ≠ .cell v) (hpush : (h'.push go).get? h'.objs.size = some go) :
    Inv (gcx X A s H (gnEnv X scope s.heap.objs.size code) fp [(h'.objs.size, go)]) [] (L2.wipe σ (own.map (·.2))) H { s with gens := gens', toks := tk, heap := h'.push go } := by
  have hfree : ∀ y ∈ scope.names, y.2 = .free → ∃ c, X.env.cells.lookup y.1 = some c := fun y hy e => by
    rcases ok.free y hy e with k | k
    · exact I.ok.has _ (.inl k)
    · exact I.ok.has _ (.inr k)
  have cm : ∀ {y c}, (cloFrom X.env.cells scope.names []).lookup y = some c → X.env.cells.lookup y = some c := fun {y c} e => by
    rcases cloFrom_mem (PySem.mem_of_lookup e) with hm | ⟨h1, h2⟩
    · cases hm
    · obtain ⟨c1, hc⟩ := hfree _ h1 rfl
      have hc : X.env.cells.lookup y = some c1 := hc
      have e2 : c = c1 := by
        rw [h2, hc] <;> rfl
      rw [e2]
      exact hc
  have look : ∀ {y}, scope.names.lookup y = some .free → ∃ c, (cloFrom X.env.cells scope.names []).lookup y = some c := fun {y} hl => by
    have hy : (y, NameKind.free) ∈ scope.names := PySem.mem_of_lookup hl
    exact mem_lookup (cloFrom_has (cells := X.env.cells) (acc := []) hy)
  have kp2 : ∀ b o, s.heap.get? b = some o → (h'.push go).get? b = some o := fun b o e => Heap.get?_push_of_some _ (kp b o e)
  have lt : ∀ b ∈ fp, b < s.heap.objs.size := fun b hb => (hfp b hb).2
  have okB : (gcx X A s H (gnEnv X scope s.heap.objs.size code) fp [(h'.objs.size, go)]).Ok := by
    refine ⟨I.ok.mod, ok.kind, I.ok.glob, rfl, Nat.le_refl _, fun y z c e1 e2 => I.ok.inj y z c (cm e1) (cm e2), fun y hy => ?_, fun y c z _ => ?_, fun _ => hA, Around.frames_deeper hfr, .inr ⟨rfl, rfl⟩, fun b hb => ⟨Nat.ne_of_lt (lt b hb), fun y c e z => (hfp b hb).1.2.2.2.2.1 y c (cm e) z⟩,
      I.bs, Nat.le_trans I.ok.bsz I.sz, fun b o e hb => ?_, fun b hb z => ?_, I.stack, I.stkFree⟩
    · have hy : scope.names.lookup y = some .cell ∨ scope.names.lookup y = some .free := hy
      rcases hy with hy | hy
      · exact absurd rfl (ok.cell _ (PySem.mem_of_lookup hy))
      · exact look hy
    · have z : false = true := z
      cases z
    · rcases (hfp b hb).1.2.2.2.1 with z | z
      · exact I.ok.noex b o e z
      · exact absurd (Nat.lt_of_lt_of_le (Heap.lt_size e) (Nat.le_trans I.ok.bsz z)) (Nat.lt_irrefl _)
    · rcases List.mem_cons.mp (I.stkSub b z) with z | z
      · exact (hfp b hb).1.2.1 z
      · exact (hfp b hb).1.2.2.1 z
  have young : ∀ b, s.heap.objs.size ≤ b → b ∉ frs X.stack := fun b hb z => by
    rcases List.mem_cons.mp (I.stkSub b z) with z | z
    · have := I.lt
      rw [← z] at this
      exact absurd (Nat.lt_of_lt_of_le this hb) (Nat.lt_irrefl _)
    · exact I.nofs hb z
  refine ⟨okB, rfl, hb, Un.kept kp2, ⟨_, hn.push _, fun i y av e1 e2 e3 => ?_⟩, fun y c e => ?_, I.hok.fresh (Nat.le_refl _), fun y c e => I.freeC y c (cm e), fun p hp => ?_, I.hok.kept kp2, by rw [L2.wipe_length]; exact I.len⟩
  · obtain ⟨e2, hne⟩ := L2.wipe_some e2
    have e3 : Vis scope y := e3
    rcases e3 with k | k | k
    · exfalso
      rcases ok.own _ (PySem.mem_of_lookup k) rfl with e' | e'
      · obtain ⟨p, hp, hpy⟩ := List.mem_map.mp e'
        have e3 := ok.ix p hp
        have : p.1 = y := hpy
        rw [this] at e3
        exact hne (List.mem_map.mpr ⟨p, hp, nodup_ix hN e3 e1⟩)
      · exact e' (List.mem_of_getElem? e1)
    · exact absurd rfl (ok.cell _ (PySem.mem_of_lookup k))
    · obtain ⟨m, hn, hl⟩ := I.loc
      have hvis : Vis X.env.scope y := (ok.free _ (PySem.mem_of_lookup k) rfl).elim (fun k => .inr (.inl k)) (fun k => .inr (.inr k))
      obtain ⟨w', r, q⟩ := hl i y av e1 e2 hvis
      obtain ⟨c2, h2⟩ := look k
      refine ⟨w', r, .inr ⟨.inr k, c2, h2, ?_⟩⟩
      have c1 := cm h2
      rcases q with ⟨k', _⟩ | ⟨_, c3, e', z⟩
      · have k' : X.env.scope.names.lookup y = some .local := k'
        rcases ok.free _ (PySem.mem_of_lookup k) rfl with k2 | k2 <;> rw [show X.env.scope.names.lookup y = _ from k2] at k' <;> cases k'
      · rw [c1] at e'
        cases e'
        exact z.keeps kp2
  · obtain ⟨w', z⟩ := I.cell y c (cm e)
    exact ⟨w', z.keeps kp2⟩
  · have hp : p ∈ [(h'.objs.size, go)] ++ ([] : List (Addr × Obj)) := hp
    rw [List.append_nil] at hp
    rw [List.mem_singleton.mp hp]
    have hz : s.heap.objs.size < h'.objs.size := by omega
    exact ⟨hpush, I.hok.fresh (Nat.le_of_lt hz), Nat.ne_of_gt hz, young _ (Nat.le_of_lt hz), hgo⟩
/-- what is asked of its turns -/
def Turns (stop : Bool) (J : It) (g : L2.TG) (tt : TT) (te : TE) (vs : List Nat) (σ : L2.St) (Q : VK) (W : Nat → Nat → Hp → Prop) : Prop := ∀ i m H, W i m H →
  (J.stop i H ∧ Q (.bl (!stop)) H) ∨ (J.go i H ∧ ∃ Nx : Hp → Prop, (∀ H', Nx H' → ∃ m', m' < m ∧ W (i + 1) m' H') ∧ ∀ x H', J.yld i H x H' → g x (L2.wipe σ vs) H' fun σ2 H2 => L2.wipe σ2 vs = L2.wipe σ vs ∧ tt σ2 H2 fun b H3 =>
    if b = true then te σ2 H3 fun y H4 => ∃ k, y = .bl k ∧ (if k = stop then Q (.bl stop) H4 else Nx H4) else Nx H3)
def tGen (stop : Bool) (P : Addr) (wi : TI) (g : L2.TG) (tt : TT) (te : TE) (vs : List Nat) : TE := fun σ H Q => wi σ H fun J H1 => GxR.TabG H1 P ∧ ∀ H2, GxR.Tabbed P H1 H2 → ∃ W : Nat → Nat → Hp → Prop, (∃ m, W 0 m H2) ∧ Turns stop J g tt te vs σ Q W
/-- back in the def -/
def Home (X : Cx) (pins : List (Addr × Obj)) (σ : L2.St) (Q : VK) (k : Bool) (s : Shared) : Prop := ∃ H, Inv X pins σ H s ∧ Q (.bl k) H
theorem Inv.alike {s' : Shared} (I : Inv X pins σ H s) (h : s'.heap = s.heap) (o : s'.os = s.os) (b : AllBare s'.gens) : Inv X pins σ H s' := by
  have e : ∀ b u, s.heap.get? b = some u → s'.heap.get? b = some u := fun b u z => by rw [h]; exact z
  exact I.call' (ch := []) o (Un.kept e) (I.hok.kept e) b fun b z => absurd z (by simp)
theorem Home.alike {Q : VK} {k : Bool} {s' : Shared} (h : Home X pins σ Q k s) (e : s'.heap = s.heap) (o : s'.os = s.os) (b : AllBare s'.gens) : Home X pins σ Q k s' := let ⟨H, I, q⟩ := h; ⟨H, Inv.alike I e o b, q⟩
def GEnd (X : Cx) (pins : List (Addr × Obj)) (σ : L2.St) (Q : VK) (stop : Bool) : Nat → Shared → Shared → Prop := fun _ _ s1 => Home X pins σ Q (!stop) s1
def GItem (X : Cx) (pins : List (Addr × Obj)) (σ : L2.St) (Q : VK) (stop : Bool) (a : Addr) (g : Nat) : Protocol := fun n s₀ v s1 kap => ∃ k, v = .bool k ∧ AllBare s1.gens ∧ (k = stop → Home X pins σ Q stop s1) ∧
  (k ≠ stop → s1.heap.IsGen a g ∧ s1.heap.NoLimit ∧ ∀ s'', s''.heap = s1.heap → s''.os = s1.os → AllBare s''.gens → kap (.send .none) s'')
theorem gen_loop {A : Around} {s3 : Shared} {H3 : Hp} {scope : Scope} {code : Value} {fp : List Addr} {C a it : Addr} {go : Obj} {gn : Nat} {stop : Bool} {J : It} {g : L2.TG} {tt : TT} {te : TE} {vs : List Nat} {Q : VK} {W : Nat → Nat → Hp → Prop} {tn : Nat → Heap → Prop} {elt tg iter : Expr} {ifs : List Expr} {pos : Pos}
    (hc : X.calm = true) (hco : scope.isCoroutine = false) (I3 : Inv X pins σ H3 s3) (f3 : ∀ b ∈ fp, FpOk X pins H3 b) (hgen : ∀ h : Heap, h.get? a = some go → h.IsGen a gn) (T : Turn X.prog X.w X.K tg J fp it tn)
    (pg : PG (gcx X A s3 H3 (gnEnv X scope C code) fp [(a, go)]) tg g) (pt : PTs (gcx X A s3 H3 (gnEnv X scope C code) fp [(a, go)]) ifs tt) (pe : PE (gcx X A s3 H3 (gnEnv X scope C code) fp [(a, go)]) elt te) (turn : Turns stop J g tt te vs σ Q W) (ha : a ∉ fp) :
    ∀ (m : Nat) (n i : Nat) (s₀ s : Shared) (H' : Hp), m < n → W i m H' → Inv (gcx X A s3 H3 (gnEnv X scope C code) fp [(a, go)]) [] (L2.wipe σ vs) H' s → tn i s.heap → (∀ b ∈ fp, H' b = none) →
      Seg (model X.prog X.w) A (fun n s₀ r s₁ => r = .ok .next ∧ GEnd X pins σ Q stop n s₀ s₁) (GItem X pins σ Q stop a gn) n s₀
        (.compLoop (.GeneratorExp elt [⟨tg, iter, ifs, 0⟩] scope pos) 0 (.ref it) .none (gnEnv X scope C code))
        ((model X.prog X.w).den (.compLoop (.GeneratorExp elt [⟨tg, iter, ifs, 0⟩] scope pos) 0 (.ref it) .none (gnEnv X scope C code))) [] s := by
  have stat : ∀ {σ' : L2.St} {H' : Hp} {s' : Shared}, Inv (gcx X A s3 H3 (gnEnv X scope C code) fp [(a, go)]) [] σ' H' s' → (∀ b ∈ fp, H' b = none) → ∀ b ∈ fp, FpOk (gcx X A s3 H3 (gnEnv X scope C code) fp [(a, go)]) [] H' b := fun {σ' H' s'} I' hn b hb =>
    ⟨hn b hb, (I'.ok.exf b hb).1, I'.ok.exfs b hb, .inl hb, fun x c e => (I'.ok.exf b hb).2 x c e, fun p hp z => by
      have hp : p ∈ [(a, go)] ++ ([] : List (Addr × Obj)) := hp
      rw [List.append_nil] at hp
      rw [List.mem_singleton.mp hp] at z
      have z : a = b := z
      exact ha (by rw [z]; exact hb)⟩
  have back : ∀ {σ' : L2.St} {H' : Hp} {s' : Shared}, Inv (gcx X A s3 H3 (gnEnv X scope C code) fp [(a, go)]) [] σ' H' s' → Inv X pins σ H' s' := fun {σ' H' s'} I' =>
    I3.call' (ch := fp) I'.os I'.base I'.hok I'.bare fun b hb => ⟨(f3 b hb).2.2.2.1, (f3 b hb).2.1, (f3 b hb).2.2.2.2.1, (f3 b hb).2.2.2.2.2⟩
  intro m
  induction m using Nat.strongRecOn with
  | _ m ih =>
    intro n i s₀ s H' hmn w I st nf
    obtain ⟨n, rfl⟩ : ∃ k, n = k + 1 := ⟨n - 1, by omega⟩
    show Seg _ A _ _ _ s₀ _ ((compTurn (.GeneratorExp elt [⟨tg, iter, ifs, 0⟩] scope pos) 0 (.ref it) .none (gnEnv X scope C code)).onRaise (leaving (gnEnv X scope C code))) [] s
    rw [compTurn_gen, Sem.onRaise_eq_wrap]
    refine seg_bind_wrap (wpAny_standAt ?_)
    rcases turn i m H' w with ⟨hstop, qq⟩ | ⟨hgo, Nx, hNx, step⟩
    · refine seg_bind_wrap (thnF (T.done (gcx X A s3 H3 (gnEnv X scope C code) fp [(a, go)]) rfl rfl rfl hc i [] s _ H' (fun _ _ => False) I (stat I nf) st hstop) fun r s6 ⟨hr, I6⟩ => ?_)
      subst hr
      exact seg_end (.ok .next) ⟨rfl, H', back I6, qq⟩
    · refine seg_bind_wrap (thnF (T.item (gcx X A s3 H3 (gnEnv X scope C code) fp [(a, go)]) rfl rfl rfl hc i [] s _ H' (fun _ _ => False) I (stat I nf) st hgo) fun r s6 ⟨u, hr, h6⟩ => ?_)
      subst hr
      refine seg_bind_wrap (thnF h6 fun _ s7 ⟨x, H7, I7, r7, y7, st7, n7⟩ => ?_)
      have I7' := I7.pinned (stat I7 n7) (T.obj _ _ st7)
      refine seg_bind_wrap (thnF (pg.run _ s7 _ H7 x u _ I7' r7 (step x H7 y7)) fun _ s8 ⟨σ8, H8, I8, hw8, q8⟩ => ?_)
      refine seg_bind_wrap (thnF (pt.run _ s8 σ8 H8 _ I8 q8) fun b s9 ⟨H9, I9, q9⟩ => ?_)
      have fin : ∀ {s' : Shared} {H' : Hp}, Inv (gcx X A s3 H3 (gnEnv X scope C code) fp [(a, go)]) ([] ++ pinsAt fp s7.heap) σ8 H' s' → Nx H' → ∃ m', m' < m ∧ W (i + 1) m' H' ∧ Inv (gcx X A s3 H3 (gnEnv X scope C code) fp [(a, go)]) [] (L2.wipe σ vs) H' s' ∧ tn (i + 1) s'.heap ∧ (∀ b ∈ fp, H' b = none) := fun {s' H'} I' nx => by
        obtain ⟨m', hm, w'⟩ := hNx H' nx
        have pin' : ∀ b ∈ fp, ∀ o, s7.heap.get? b = some o → s'.heap.get? b = some o ∧ H' b = none := fun b hb o e =>
          let z := I'.pin (b, o) (List.mem_append_right _ (List.mem_append_right _ (mem_pinsAt hb e)))
          ⟨z.1, z.2.1⟩
        have hl : (L2.wipe σ vs).length = σ8.length := by rw [← hw8, L2.wipe_length]
        refine ⟨m', hm, w', (I'.unpinned (pins := [])).weak hl (fun j v e => ?_), T.keep _ _ _ st7 fun b hb o e => (pin' b hb o e).1, fun b hb => ?_⟩
        · rw [← hw8] at e
          exact (L2.wipe_some e).1
        · obtain ⟨o, e, _⟩ := T.obj _ _ st7 b hb
          exact (pin' b hb o e).2
      cases b with
      | false =>
        simp only [Bool.false_eq_true, if_false] at q9 ⊢
        obtain ⟨m', hm, w', J', st', nf'⟩ := fin I9 q9
        exact seg_again rfl (ih m' hm (n + 1) (i + 1) s₀ s9 H9 (by omega) w' J' st' nf')
      | true =>
        simp only [if_true] at q9 ⊢
        have hy : ∀ v, yieldOut (gnEnv X scope C code) v = yieldValue v := fun v => by
          unfold yieldOut
          rw [show (gnEnv X scope C code).scope.isCoroutine = false from hco]
          rfl
        simp only [hy]
        rw [Sem.bind_eq_wrap', Sem.bind_eq_wrap', Sem.wrap_wrap, Sem.wrap_wrap]
        refine seg_wrap (thnF (pe.run _ s9 σ8 H9 _ I9 q9) fun z s10 ⟨yv, H10, I10, r10, k, hk, q10⟩ => ?_)
        subst hk
        cases r10
        refine seg_at (seg_yield rfl rfl rfl ⟨k, rfl, I10.bare, fun e => ?_, fun e => ?_⟩)
        · rw [if_pos e] at q10
          exact ⟨H10, back (I10.unpinned (pins := [])), q10⟩
        · rw [if_neg e] at q10
          obtain ⟨m', hm, w', J', st', nf'⟩ := fin I10 q10
          refine ⟨hgen _ (J'.pin (a, go) (by simp)).1, J'.nolimit, fun s'' eh eo eb => ?_⟩
          exact seg_again rfl (ih m' hm n (i + 1) s'' s'' H10 (by omega) w' (Inv.alike J' eh eo eb) (by rw [eh]; exact st') nf')
/-- all, any walk it -/
theorem all_loop {A : Around} {Q : VK} {a : Addr} {g : Nat} {R : Result → Shared → Prop} (hh : A.handled = none) (hd : A.depth < recursionLimit)
    (hR : ∀ k s', Home X pins σ Q k s' → R (.ok (.ret (.bool k))) s') : ∀ (n : Nat) (s : Shared), s.heap.IsGen a g → s.heap.NoLimit → AllBare s.gens →
      (∃ gs, s.gens[g]? = some gs ∧ ∀ s'', s''.heap = s.heap → s''.os = s.os → AllBare s''.gens → gs.Goes (model X.prog X.w) A.in1.in1 (fun n s₀ r s₁ => r = .ok .next ∧ GEnd X pins σ Q false n s₀ s₁) (GItem X pins σ Q false a g) n (.send .none) s'') →
      codeAny (model X.prog X.w) A (.builtin "all.loop" ⟨[.ref a], []⟩) R s := by
  intro n
  induction n with
  | zero =>
    intro s hg hl hb ⟨gs, hgs, hgo⟩
    refine codeAny_builtin F.entry_all_loop ?_
    rw [Around.under_plainId F.plain_all_loop _]
    show wpAny _ A.in1 (pyNext (.ref a) >>= _) _ _ s
    refine wpAny_bind (wpAny_pyNext_genexpQ (A := A.in1) (n := 0) (P := GEnd X pins σ Q false) hh hl hd hg hgs (hgo _ rfl rfl (allBare_setGen hb rfl)) (fun v s₁ gs' hbare hv => ?_) (fun s₁ hp h' hk => ?_))
    · obtain ⟨k, rfl, hb1, h1, h2⟩ := hv
      refine wpAny_bind (wpAny_holding (wpAny_truthy_bool ?_))
      refine wpAny_bind (wpAny_letGo ?_)
      cases k with
      | true => obtain ⟨_, _, h3⟩ := h2 (by decide); exact (h3 s₁ rfl rfl hb1).elim
      | false =>
        simp only [Bool.false_eq_true, if_false]
        refine wpAny_bind (wpAny_rule (wpAny_pure ?_))
        exact hR false _ ((h1 rfl).alike rfl rfl (allBare_setGen hb1 hbare))
    · refine wpAny_bind (wpAny_rule (wpAny_pure ?_))
      obtain ⟨H', I', q'⟩ := hp
      have J := (I'.kept (h' := h') (t' := s₁.toks) hk)
      exact hR true _ ⟨H', Inv.alike J rfl rfl (allBare_setGen (s := s₁) I'.bare rfl), q'⟩
  | succ n ih =>
    intro s hg hl hb ⟨gs, hgs, hgo⟩
    have hgl : g < s.gens.size := (Array.getElem?_eq_some_iff.mp hgs).1
    refine codeAny_builtin F.entry_all_loop ?_
    rw [Around.under_plainId F.plain_all_loop _]
    show wpAny _ A.in1 (pyNext (.ref a) >>= _) _ _ s
    refine wpAny_bind (wpAny_gsz (n := g + 1) hgl (wpAny_pyNext_genexpQ (A := A.in1) (n := n + 1) (P := GEnd X pins σ Q false) hh hl hd hg hgs (hgo _ rfl rfl (allBare_setGen hb rfl)) (fun v s₁ gs' hbare hv => ?_) (fun s₁ hp h' hk => ?_)))
    · intro hsz
      have hsz1 : g < s₁.gens.size := by
        have q : (s₁.setGen g gs').gens.size = s₁.gens.size := setGen_size _ _ _
        have hsz' : g + 1 ≤ (s₁.setGen g gs').gens.size := hsz
        omega
      obtain ⟨k, rfl, hb1, h1, h2⟩ := hv
      refine wpAny_bind (wpAny_holding (wpAny_truthy_bool ?_))
      refine wpAny_bind (wpAny_letGo ?_)
      cases k with
      | true =>
        simp only [if_true]
        obtain ⟨hg1, hl1, h3⟩ := h2 (by decide)
        refine wpAny_pure ⟨plainId_quiet F.plain_all_loop _, ih (s₁.setGen g gs') hg1 hl1 (allBare_setGen hb1 hbare) ⟨gs', setGen_at hsz1, fun s'' e1 e2 e3 => h3 s'' e1 e2 e3⟩⟩
      | false =>
        simp only [Bool.false_eq_true, if_false]
        refine wpAny_bind (wpAny_rule (wpAny_pure ?_))
        exact hR false _ ((h1 rfl).alike rfl rfl (allBare_setGen hb1 hbare))
    · intro _
      refine wpAny_bind (wpAny_rule (wpAny_pure ?_))
      obtain ⟨H', I', q'⟩ := hp
      have J := (I'.kept (h' := h') (t' := s₁.toks) hk)
      exact hR true _ ⟨H', Inv.alike J rfl rfl (allBare_setGen (s := s₁) I'.bare rfl), q'⟩
theorem any_loop {A : Around} {Q : VK} {a : Addr} {g : Nat} {R : Result → Shared → Prop} (hh : A.handled = none) (hd : A.depth < recursionLimit)
    (hR : ∀ k s', Home X pins σ Q k s' → R (.ok (.ret (.bool k))) s') : ∀ (n : Nat) (s : Shared), s.heap.IsGen a g → s.heap.NoLimit → AllBare s.gens →
      (∃ gs, s.gens[g]? = some gs ∧ ∀ s'', s''.heap = s.heap → s''.os = s.os → AllBare s''.gens → gs.Goes (model X.prog X.w) A.in1.in1 (fun n s₀ r s₁ => r = .ok .next ∧ GEnd X pins σ Q true n s₀ s₁) (GItem X pins σ Q true a g) n (.send .none) s'') →
      codeAny (model X.prog X.w) A (.builtin "any.loop" ⟨[.ref a], []⟩) R s := by
  intro n
  induction n with
  | zero =>
    intro s hg hl hb ⟨gs, hgs, hgo⟩
    refine codeAny_builtin F.entry_any_loop ?_
    rw [Around.under_plainId F.plain_any_loop _]
    show wpAny _ A.in1 (pyNext (.ref a) >>= _) _ _ s
    refine wpAny_bind (wpAny_pyNext_genexpQ (A := A.in1) (n := 0) (P := GEnd X pins σ Q true) hh hl hd hg hgs (hgo _ rfl rfl (allBare_setGen hb rfl)) (fun v s₁ gs' hbare hv => ?_) (fun s₁ hp h' hk => ?_))
    · obtain ⟨k, rfl, hb1, h1, h2⟩ := hv
      refine wpAny_bind (wpAny_holding (wpAny_truthy_bool ?_))
      refine wpAny_bind (wpAny_letGo ?_)
      cases k with
      | false => obtain ⟨_, _, h3⟩ := h2 (by decide); exact (h3 s₁ rfl rfl hb1).elim
      | true =>
        simp only [if_true]
        refine wpAny_bind (wpAny_rule (wpAny_pure ?_))
        exact hR true _ ((h1 rfl).alike rfl rfl (allBare_setGen hb1 hbare))
    · refine wpAny_bind (wpAny_rule (wpAny_pure ?_))
      obtain ⟨H', I', q'⟩ := hp
      have J := (I'.kept (h' := h') (t' := s₁.toks) hk)
      exact hR false _ ⟨H', Inv.alike J rfl rfl (allBare_setGen (s := s₁) I'.bare rfl), q'⟩
  | succ n ih =>
    intro s hg hl hb ⟨gs, hgs, hgo⟩
    have hgl : g < s.gens.size := (Array.getElem?_eq_some_iff.mp hgs).1
    refine codeAny_builtin F.entry_any_loop ?_
    rw [Around.under_plainId F.plain_any_loop _]
    show wpAny _ A.in1 (pyNext (.ref a) >>= _) _ _ s
    refine wpAny_bind (wpAny_gsz (n := g + 1) hgl (wpAny_pyNext_genexpQ (A := A.in1) (n := n + 1) (P := GEnd X pins σ Q true) hh hl hd hg hgs (hgo _ rfl rfl (allBare_setGen hb rfl)) (fun v s₁ gs' hbare hv => ?_) (fun s₁ hp h' hk => ?_)))
    · intro hsz
      have hsz1 : g < s₁.gens.size := by
        have q : (s₁.setGen g gs').gens.size = s₁.gens.size := setGen_size _ _ _
        have hsz' : g + 1 ≤ (s₁.setGen g gs').gens.size := hsz
        omega
      obtain ⟨k, rfl, hb1, h1, h2⟩ := hv
      refine wpAny_bind (wpAny_holding (wpAny_truthy_bool ?_))
      refine wpAny_bind (wpAny_letGo ?_)
      cases k with
      | false =>
        simp only [Bool.false_eq_true, if_false]
        obtain ⟨hg1, hl1, h3⟩ := h2 (by decide)
        refine wpAny_pure ⟨plainId_quiet F.plain_any_loop _, ih (s₁.setGen g gs') hg1 hl1 (allBare_setGen hb1 hbare) ⟨gs', setGen_at hsz1, fun s'' e1 e2 e3 => h3 s'' e1 e2 e3⟩⟩
      | true =>
        simp only [if_true]
        refine wpAny_bind (wpAny_rule (wpAny_pure ?_))
        exact hR true _ ((h1 rfl).alike rfl rfl (allBare_setGen hb1 hbare))
    · intro _
      refine wpAny_bind (wpAny_rule (wpAny_pure ?_))
      obtain ⟨H', I', q'⟩ := hp
      have J := (I'.kept (h' := h') (t' := s₁.toks) hk)
      exact hR false _ ⟨H', Inv.alike J rfl rfl (allBare_setGen (s := s₁) I'.bare rfl), q'⟩
/-- a generator that has not begun -/
def Ready (X : Cx) (pins : List (Addr × Obj)) (σ : L2.St) (Q : VK) (stop : Bool) (k : Nat) (u : Value) (s' : Shared) : Prop :=
  ∃ (a : Addr) (g n : Nat) (gs : GenState), u = .ref a ∧ s'.heap.IsGen a g ∧ s'.heap.NoLimit ∧ AllBare s'.gens ∧ s'.gens[g]? = some gs ∧
    ∀ (A : Around) (s'' : Shared), Room (k + 1) A → A.frames = some X.stack → s''.heap = s'.heap → s''.os = s'.os → AllBare s''.gens → gs.Goes (model X.prog X.w) A (fun n s₀ r s₁ => r = .ok .next ∧ GEnd X pins σ Q stop n s₀ s₁) (GItem X pins σ Q stop a g) n (.send .none) s''
/-- what the element, the tests, the target are in the generator's frame -/
structure GenPs (X : Cx) (k : Nat) (scope : Scope) (tg elt : Expr) (ifs : List Expr) (g : L2.TG) (tt : TT) (te : TE) : Prop where
  g : ∀ (A : Around) (s : Shared) (H : Hp) (C : Addr) (code : Value) (fp : List Addr) (pn : List (Addr × Obj)), Room k (A.deeper (gnEnv X scope C code)) → PG (gcx X A s H (gnEnv X scope C code) fp pn) tg g
  t : ∀ (A : Around) (s : Shared) (H : Hp) (C : Addr) (code : Value) (fp : List Addr) (pn : List (Addr × Obj)), Room k (A.deeper (gnEnv X scope C code)) → PTs (gcx X A s H (gnEnv X scope C code) fp pn) ifs tt
  e : ∀ (A : Around) (s : Shared) (H : Hp) (C : Addr) (code : Value) (fp : List Addr) (pn : List (Addr × Obj)), Room k (A.deeper (gnEnv X scope C code)) → PE (gcx X A s H (gnEnv X scope C code) fp pn) elt te
theorem gen_make {stop : Bool} {c P : Addr} {k : Nat} {wi : TI} {g : L2.TG} {tt : TT} {te : TE} {Q : VK} {elt tg iter : Expr} {ifs : List Expr} {scope : Scope} {own : List (Str × Nat)} {gpos : Pos}
    (hc : X.calm = true) (hN : X.N.Nodup) (hr : X.A.depth < recursionLimit) (TB : GxR.TabB X.base X.mg c P) (hcode : X.env.code = .ref c) (S : GnS X.N X.env.scope scope own) (hi : PI X tg iter wi) (ps : GenPs X k scope tg elt ifs g tt te)
    (hs : ∀ v, genFold iter X.env v = pure v) (I : Inv X pins σ H s) (h : tGen stop P wi g tt te (own.map (·.2)) σ H Q) :
    wpAny (model X.prog X.w) X.A (eval (.GeneratorExp elt [⟨tg, iter, ifs, 0⟩] scope gpos) X.env) (Ready X pins σ Q stop k) X.xe s := by
  have hfree : ∀ y ∈ scope.names, y.2 = .free → ∃ c, X.env.cells.lookup y.1 = some c := fun y hy e => by
    rcases S.free y hy e with k | k
    · exact I.ok.has _ (.inl k)
    · exact I.ok.has _ (.inr k)
  refine wpAny_GeneratorExp_make S.co (closure_ok hfree) S.cell S.dot S.kind hr (thn (hi.run pins s σ H _ I h) fun xv s1 h1 => thn h1 fun itv s2 h2 => ?_) hs
  obtain ⟨it, fp, tn, J, H2, rfl, I2, T, st2, f2, ⟨ps0, hP, ht⟩, q⟩ := h2
  refine ⟨I2.nolimit, ?_⟩
  have hPs : s2.heap.get? P = some { cls := .none, data := .fields ps0 } := I2.hok P _ hP
  have hPlt : P < s2.heap.objs.size := Heap.lt_size hPs
  have cd : PySem.W.CodeHd s2.heap c P := TB.code.keeps fun b u e => I2.bk b u e
  -- behind the code object's lookup
  have cont : ∀ (code : Value) (h3 : Heap) (tk : Nat) (ps' : Array Value), Heap.ExtBut P s2.heap h3 → h3.get? P = some { cls := .none, data := .fields ps' } → (∃ more, ps' = ps0 ++ more) → TriplesOk ps'.toList →
      wpAny (model X.prog X.w) X.A (builtinsFor X.env.globals X.env.builtins) (fun bi s₄ => ∀ h', h'.Ns s₄.heap.objs.size (fun y => if y = ".0" then some (.ref it) else none) → Heap.SameBut s₄.heap.objs.size (s₄.heap.push { cls := .type "frame", data := .dict #[] }) h' →
        Ready X pins σ Q stop k (.ref h'.objs.size) { s₄ with
          gens := s₄.gens.push (.fresh (.compStart (.GeneratorExp elt [⟨tg, iter, ifs, 0⟩] scope gpos) 0 (.ref it) .none (genEnv scope (cloFrom X.env.cells scope.names []) s₄.heap.objs.size code bi X.env))),
          toks := s₄.toks + 1 + 1 + 1,
          heap := h'.push { cls := .type "generator", data := .fields #[.int s₄.gens.size 0, .str "<genexpr>" (s₄.toks + 1), .str (X.env.qual ++ "<genexpr>") (s₄.toks + 1 + 1)] } }) X.xe { s2 with heap := h3, toks := tk } := by
    intro code h3 tk ps' hx hP3 hmore ht3
    obtain ⟨bm, ob, e1, e2, e3, e4, e5, e6, e7, e8⟩ := TB.bm
    have keep3 : ∀ b u, b ≠ P → s2.heap.get? b = some u → h3.get? b = some u := fun b u hb e => hx b u hb e
    refine wpAny_builtinsFor (m := X.mg) (by rw [I2.ok.glob]; exact (I2.mod.glob.keeps I2.bk).extBut hx TB.gP) e1 e2 (keep3 _ _ e4 (I2.bk _ _ e5)) e6 e7 e8 ?_
    obtain ⟨more, em⟩ := hmore
    have I3 : Inv X pins σ (upd H2 P (.tbl (ps0 ++ more))) { s2 with heap := h3, toks := tk } := GxR.inv_tab (g' := s2.gens) (d' := s2.drawn) I2 hP keep3 (by rw [← em]; exact hP3) I2.bare
    obtain ⟨W, ⟨m, w0⟩, turn⟩ := q (upd H2 P (.tbl (ps0 ++ more))) ⟨⟨ps0 ++ more, upd_same, by rw [← em]; exact ht3⟩, fun b hb => upd_ne hb⟩
    generalize hs3 : ({ s2 with heap := h3, toks := tk } : Shared) = s3 at I3 ⊢
    have h3s : s3.heap = h3 := by rw [← hs3]
    generalize hH3 : upd H2 P (.tbl (ps0 ++ more)) = H3 at I3 w0
    have nP : ∀ b ∈ fp, b ≠ P := fun b hb z => by
      have := (f2 b hb).1
      rw [z, hP] at this
      cases this
    have f3 : ∀ b ∈ fp, FpOk X pins H3 b := fun b hb => ⟨by rw [← hH3, upd_ne (nP b hb)]; exact (f2 b hb).1, (f2 b hb).2⟩
    have st3 : tn 0 s3.heap := T.keep _ _ _ st2 fun b hb o e => by rw [h3s]; exact keep3 b o (nP b hb) e
    have sz : ∀ b ∈ fp, b < s3.heap.objs.size := fun b hb => by
      obtain ⟨o, e, _⟩ := T.obj _ _ st3 b hb
      exact Heap.lt_size e
    intro h' hn' hs'
    have hsz : h'.objs.size = s3.heap.objs.size + 1 := by rw [hs'.1, Heap.size_push]
    have keep' : ∀ b o, s3.heap.get? b = some o → h'.get? b = some o := fun b o e => hs'.extBut b o (Nat.ne_of_lt (Heap.lt_size e)) (Heap.get?_push_of_some _ e)
    generalize hgo : ({ cls := .type "generator", data := .fields #[.int s3.gens.size 0, .str "<genexpr>" (s3.toks + 1), .str (X.env.qual ++ "<genexpr>") (s3.toks + 1 + 1)] } : Obj) = go
    have gen_ : ∀ h : Heap, h.get? h'.objs.size = some go → h.IsGen h'.objs.size s3.gens.size := fun h e => ⟨go, _, _, e, by rw [← hgo], by rw [← hgo], by rw [← hgo]⟩
    have hpush : (h'.push go).get? h'.objs.size = some go := Heap.get?_push_size _ (by rw [← hgo]; rfl)
    have hcell : ∀ v, go.data ≠ .cell v := fun v z => by rw [← hgo] at z; cases z
    have keep5 : ∀ b o, s3.heap.get? b = some o → (h'.push go).get? b = some o := fun b o e => Heap.get?_push_of_some _ (keep' b o e)
    refine ⟨h'.objs.size, s3.gens.size, m + 1, _, rfl, gen_ _ hpush, I3.nolimit.keeps keep5, I3.bare.push rfl, Array.getElem?_push_size .., fun A s'' hrA hfr eh eo eb => ⟨rfl, ?_⟩⟩
    have I4 := gen_start (A := A) (own := own) (code := code) (it := .ref it) (tk := s3.toks) (gens' := s''.gens) (go := go) I3 S hN (fun b hb => ⟨f3 b hb, sz b hb⟩) hrA.hd hfr hn' keep' hsz eb hcell hpush
    have I5 : Inv (gcx X A s3 H3 (gnEnv X scope s3.heap.objs.size code) fp [(h'.objs.size, go)]) [] (L2.wipe σ (own.map (·.2))) H3 s'' := Inv.alike I4 eh eo eb
    have st5 : tn 0 s''.heap := T.keep _ _ _ st3 fun b hb o e => by rw [eh]; exact keep5 b o e
    have ha : h'.objs.size ∉ fp := fun hm => Nat.lt_irrefl _ (Nat.lt_of_lt_of_le (sz _ hm) (by rw [hsz]; exact Nat.le_succ _))
    have rm := hrA.deeper (gnEnv X scope s3.heap.objs.size code)
    have loop := gen_loop (pos := gpos) (iter := iter) hc S.co I3 f3 gen_ T (ps.g A s3 H3 s3.heap.objs.size code fp [(h'.objs.size, go)] rm) (ps.t A s3 H3 s3.heap.objs.size code fp [(h'.objs.size, go)] rm) (ps.e A s3 H3 s3.heap.objs.size code fp [(h'.objs.size, go)] rm) turn ha m (m + 1) 0 s'' s'' H3 (Nat.lt_succ_self _) w0 I5 st5 (fun b hb => (f3 b hb).1)
    show Seg _ A _ _ _ s'' _ ((compStart (.GeneratorExp elt [⟨tg, iter, ifs, 0⟩] scope gpos) 0 (.ref it) .none (gnEnv X scope s3.heap.objs.size code)).onRaise (leaving (gnEnv X scope s3.heap.objs.size code))) [] s''
    unfold compStart
    rw [Sem.onRaise_eq_wrap]
    show Seg _ A _ _ _ s'' _ ((ask >>= _).wrap _ _ _ _) [] s''
    refine seg_bind_wrap (wpAny_askSetting ?_)
    split
    · exact seg_again rfl loop
    · first
        | exact seg_bind_wrap (wpAny_rule (seg_bind_wrap (wpAny_standAt (seg_bind_wrap (T.self _ 0 s'' _ _ st5 (seg_again rfl loop))))))
        | (refine seg_bind_wrap (wpAny_rule ?_); show Seg _ A _ _ _ s'' _ ((standAt iter.pos >>= _).wrap _ _ _ _) [] s''; exact seg_bind_wrap (wpAny_standAt (seg_bind_wrap (T.self _ 0 s'' _ _ st5 (seg_again rfl loop)))))
  cases hf : codeAmong gpos ps0.toList with
  | none =>
    refine wpAny_genexprCodeX hcode (cd.code hPs ht) (cd.tab hPs) hf fun c' h' tk hx hge hlt hco' _ htab' _ => ?_
    obtain ⟨o1, vs, f1, tf, fl, tg, inF, tx, tt, op, _, _, _, _, _, _, _, _, _, htr, _⟩ := hco'
    exact cont _ h' tk _ hx htab'.2 ⟨_, rfl⟩ htr
  | some cv =>
    refine wpAny_genexprCode_hit hcode (cd.code hPs ht) hf ?_
    exact cont cv s2.heap s2.toks ps0 (Heap.ExtBut.refl _ _) hPs ⟨#[], by simp⟩ ht
theorem pe_all {c P : Addr} {k : Nat} {wi : TI} {g : L2.TG} {tt : TT} {te : TE} {elt tg iter : Expr} {ifs : List Expr} {scope : Scope} {own : List (Str × Nat)} {gpos p pos : Pos}
    (hr : Room (k + 3) X.A) (hc : X.calm = true) (hN : X.N.Nodup) (hg : Gl X "all") (hm : X.mg "all" = none) (TB : GxR.TabB X.base X.mg c P) (hcode : X.env.code = .ref c) (S : GnS X.N X.env.scope scope own) (hi : PI X tg iter wi) (ps : GenPs X k scope tg elt ifs g tt te)
    (hs : ∀ v, genFold iter X.env v = pure v)
    (he : starEach [.GeneratorExp elt [⟨tg, iter, ifs, 0⟩] scope gpos] X.env = (false, eval (.GeneratorExp elt [⟨tg, iter, ifs, 0⟩] scope gpos) X.env) :: starEach [] X.env := by rfl) :
    PE X (.Call (.Name "all" p) [.GeneratorExp elt [⟨tg, iter, ifs, 0⟩] scope gpos] [] pos) (tGen false P wi g tt te (own.map (·.2))) := by
  refine ⟨fun pins s σ H Q I h => ?_⟩
  refine wpAny_Call_Name_kw (ld_blt I hg hm (by rfl : bootBuiltins "all" = some (.builtin "all")) ?_)
  refine PyProof.Rows.callWith_builtin1 ?_ he (by rfl)
  rw [he]
  show wpAny _ _ (spliced ((false, eval (.GeneratorExp elt [⟨tg, iter, ifs, 0⟩] scope gpos) X.env) :: backTo pos (starEach [] X.env))) _ _ s
  refine Calls.spliced_cons (thn (gen_make hc hN hr.depth TB hcode S hi ps hs I h) fun u s1 hG => ?_)
  obtain ⟨a, gn, n, gs, rfl, hgen, hl, hb, hgs, go⟩ := hG
  refine Calls.spliced_nil ?_
  refine call_function_tree F.kind_all F.plain_all F.entry_all (F.args_all1 _) ?_
  unfold Builtin.«all»
  refine wpAny_bind (m := oneArg "all" _) (wpAny_pure ?_)
  refine wpAny_bind (wpAny_pyIter_gen hgen ?_)
  refine wpAny_pure ⟨plainId_quiet F.plain_all_loop _, all_loop (A := X.A) (X := X) (pins := pins) (σ := σ) (Q := Q) hr.hd hr.depth (fun k s' hh => ?_) n s1 hgen hl hb ⟨gs, hgs, fun s'' e1 e2 e3 => go _ s'' ?_ I.ok.frames e1 e2 e3⟩⟩
  · obtain ⟨H', I', q'⟩ := hh
    exact ⟨.bl k, H', I', rfl, q'⟩
  · exact (hr.in1).in1
theorem pe_any {c P : Addr} {k : Nat} {wi : TI} {g : L2.TG} {tt : TT} {te : TE} {elt tg iter : Expr} {ifs : List Expr} {scope : Scope} {own : List (Str × Nat)} {gpos p pos : Pos}
    (hr : Room (k + 3) X.A) (hc : X.calm = true) (hN : X.N.Nodup) (hg : Gl X "any") (hm : X.mg "any" = none) (TB : GxR.TabB X.base X.mg c P) (hcode : X.env.code = .ref c) (S : GnS X.N X.env.scope scope own) (hi : PI X tg iter wi) (ps : GenPs X k scope tg elt ifs g tt te)
    (hs : ∀ v, genFold iter X.env v = pure v)
    (he : starEach [.GeneratorExp elt [⟨tg, iter, ifs, 0⟩] scope gpos] X.env = (false, eval (.GeneratorExp elt [⟨tg, iter, ifs, 0⟩] scope gpos) X.env) :: starEach [] X.env := by rfl) :
    PE X (.Call (.Name "any" p) [.GeneratorExp elt [⟨tg, iter, ifs, 0⟩] scope gpos] [] pos) (tGen true P wi g tt te (own.map (·.2))) := by
  refine ⟨fun pins s σ H Q I h => ?_⟩
  refine wpAny_Call_Name_kw (ld_blt I hg hm boot_any ?_)
  refine PyProof.Rows.callWith_builtin1 ?_ he (by rfl)
  rw [he]
  show wpAny _ _ (spliced ((false, eval (.GeneratorExp elt [⟨tg, iter, ifs, 0⟩] scope gpos) X.env) :: backTo pos (starEach [] X.env))) _ _ s
  refine Calls.spliced_cons (thn (gen_make hc hN hr.depth TB hcode S hi ps hs I h) fun u s1 hG => ?_)
  obtain ⟨a, gn, n, gs, rfl, hgen, hl, hb, hgs, go⟩ := hG
  refine Calls.spliced_nil ?_
  refine call_function_tree F.kind_any F.plain_any F.entry_any (F.args_any1 _) ?_
  unfold Builtin.«any»
  refine wpAny_bind (m := oneArg "any" _) (wpAny_pure ?_)
  refine wpAny_bind (wpAny_pyIter_gen hgen ?_)
  refine wpAny_pure ⟨plainId_quiet F.plain_any_loop _, any_loop (A := X.A) (X := X) (pins := pins) (σ := σ) (Q := Q) hr.hd hr.depth (fun k s' hh => ?_) n s1 hgen hl hb ⟨gs, hgs, fun s'' e1 e2 e3 => go _ s'' ?_ I.ok.frames e1 e2 e3⟩⟩
  · obtain ⟨H', I', q'⟩ := hh
    exact ⟨.bl k, H', I', rfl, q'⟩
  · exact (hr.in1).in1
end

/-! ### as plain values -/
def genF (stop : Bool) (own : List Nat) (T : Tg) (tt : M Bool) (elt : M PyData) : List PyData → M PyData
  | [] => .ret (.bool (!stop))
  | d :: ds => fun r => if noIo r own then (match T d (wipeR r own) with
    | some r1 => match tt r1 with
      | .ok true r2 => match elt r2 with
        | .ok (.bool k) r3 => if k = stop then .ok (.bool stop) r3 else genF stop own T tt elt ds r3
        | _ => .st
      | .ok false r2 => genF stop own T tt elt ds r2
      | _ => .st
    | none => .st) else .st
def genB (stop : Bool) (own : List Nat) (T : Tg) (tt : M Bool) (elt : M PyData) (ds : List PyData) : M PyData := fun r => match genF stop own T tt elt ds r with
  | .ok d r2 => if noIo r2 own then .ok d (unwipe own r r2) else .st
  | _ => .st
def dGen (stop : Bool) (own : List Nat) (it : M (List PyData)) (T : Tg) (tt : M Bool) (elt : M PyData) : M PyData := it.bind (genB stop own T tt elt)
section
variable {K : PySem.W.Frag} {TG : List TbK} {W : WX} {it : M (List PyData)} {T : Tg} {ns : List Nat} {tt : M Bool} {elt : M PyData} {own : List Nat} {stop : Bool}
theorem SR.tab {B : List (Nat × Addr)} {F G0 G H H2 : Hp} {r : List Sl} {s : L2.St} {P : Addr} (i : SR K TG B F G0 G H r s) (hP : (⟨P, none⟩ : TbK) ∈ TG ∧ ∀ z ∈ TG, z.P = P → z.q = none) (t : GxR.Tabbed P H H2) : SR K TG B F G0 G H2 r s := by
  obtain ⟨ps, hps, _⟩ := i.tb _ hP.1
  have hps : H P = some (.tbl ps) := hps
  have ne : ∀ b u, H b = some u → (∀ q, u ≠ .tbl q) → b ≠ P := fun b u e h z => by
    rw [z, hps] at e
    cases e
    exact h ps rfl
  refine ⟨i.len, fun b u q => ?_, fun b u q => ?_, i.g0, i.fg, i.gt, i.ft, fun Z hZ => ?_, i.vals, fun j ds q => ?_, i.sep, i.ios⟩
  · rw [t.2 b (ne b u (i.gh _ _ q) fun p z => i.gt b p (by rw [q, z]))]
    exact i.gh _ _ q
  · rw [t.2 b (ne b u (i.fh _ _ q) fun p z => i.ft b p (by rw [q, z]))]
    exact i.fh _ _ q
  · by_cases z : Z.P = P
    · obtain ⟨ps', a, b⟩ := t.1
      exact ⟨ps', by rw [z]; exact a, b, fun q hq => by rw [hP.2 Z hZ z] at hq; cases hq⟩
    · exact (i.tb Z hZ).keep (fun _ e => by rw [t.2 _ z]; exact e) fun c q e => by rw [t.2 c (ne c _ e fun _ => LamX.codeO_ne _)]; exact e
  · obtain ⟨a, xs, h1, h2, h3⟩ := i.owns j ds q
    exact ⟨a, xs, h1, by rw [t.2 a (ne a _ h2 fun q z => by cases z)]; exact h2, h3⟩
theorem genF_cons {d : PyData} {ds : List PyData} {r : List Sl} : genF stop own T tt elt (d :: ds) r = if noIo r own then (match T d (wipeR r own) with
    | some r1 => match tt r1 with
      | .ok true r2 => match elt r2 with
        | .ok (.bool k) r3 => if k = stop then .ok (.bool stop) r3 else genF stop own T tt elt ds r3
        | _ => .st
      | .ok false r2 => genF stop own T tt elt ds r2
      | _ => .st
    | none => .st) else .st := rfl
theorem rd_gen {s : L2.St} {H : Hp} {Q : VK} {P : Addr} (hP : (⟨P, none⟩ : TbK) ∈ TG ∧ ∀ z ∈ TG, z.P = P → z.q = none) (hns : ∀ i ∈ ns, i ∈ own) (h : rd K TG W (RE K) (dGen stop own it T tt elt) s H Q) :
    tGen stop P (rdI K TG W it) (rdG K TG ns T) (rd K TG W0 RB tt) (rd K TG W0 (RE K) elt) own s H Q := by
  obtain ⟨B, F, G0, G, z, i, p⟩ := h
  refine ⟨B, F, G0, G, z, i, ?_⟩
  unfold dGen M.bind at p
  cases hr : it z with
  | st => rw [hr] at p; exact p
  | ex x r1 => rw [hr] at p; exact p
  | ok ds r1 =>
    rw [hr] at p
    have p : post K TG W (RE K) B F G0 G s Q (genB stop own T tt elt ds r1) := p
    unfold genB at p
    intro G1 H1 J e1 i1 ok
    refine ⟨(i1.tb _ hP.1).g, fun H2 tH => ?_⟩
    have i2 := i1.tab hP tH
    let k : Res PyData → Prop := fun x => ∃ out r2, x = .ok out r2 ∧ noIo r2 own = true ∧ ∀ G' H' v, Same G G' → SR K TG B F G0 G' H' (unwipe own r1 r2) s → Rv K G' out v → Q v H'
    have hk : k (genF stop own T tt elt ds r1) := by
      cases hq : genF stop own T tt elt ds r1 with
      | ok out r2 =>
        rw [hq] at p
        have p : post K TG W (RE K) B F G0 G s Q (if noIo r2 own then .ok out (unwipe own r1 r2) else .st) := p
        split at p
        · rename_i hio; exact ⟨out, r2, rfl, hio, p⟩
        · exact p.elim
      | ex x r2 => rw [hq] at p; exact p.elim
      | st => rw [hq] at p; exact p.elim
    have fin : ∀ {G' H' r2 s2 b}, Same G1 G' → Like own s s2 → SR K TG B F G0 G' H' r2 s2 → k (.ok (.bool b) r2) → Q (.bl b) H' := fun {G' H' r2 s2 b} e l i' ⟨out, r3, ho, hio, hp⟩ => by
      cases ho
      refine hp G' H' (.bl b) (e1.trans e) (i'.unwipe l hio fun v d q => ?_) rfl
      obtain ⟨u, h1, h2⟩ := i1.vals v d q
      exact ⟨u, h1, Rv.mono e _ _ h2⟩
    have hst : ¬ k .st := fun ⟨_, _, e, _⟩ => by cases e
    refine ⟨fun i m H' => m = ds.length - i ∧ i ≤ ds.length ∧ ∃ G2 r2 s2, Same G1 G2 ∧ Like own s s2 ∧ SR K TG B F G0 G2 H' r2 s2 ∧ k (genF stop own T tt elt (ds.drop i) r2), ⟨ds.length, rfl, Nat.zero_le _, G1, r1, s, .refl _, .refl _ _, i2, hk⟩, ?_⟩
    rintro i m H' ⟨rfl, hi, G2, r2, s2, e2, l2, i2, hk⟩
    have w2 : L2.wipe s2 own = L2.wipe s own := wipe_set l2
    by_cases hlt : i < ds.length
    · refine .inr ⟨ok.go i H' (e2.trans i2.gh) hlt, fun H3 => ∃ G2 r2 s2, Same G1 G2 ∧ Like own s s2 ∧ SR K TG B F G0 G2 H3 r2 s2 ∧ k (genF stop own T tt elt (ds.drop (i + 1)) r2), fun H3 h3 => ⟨ds.length - (i + 1), by omega, rfl, hlt, h3⟩, fun x H3 y => ?_⟩
      obtain ⟨d, G3, hd, gr, rv⟩ := ok.yld i H' x H3 G2 e2 i2.gh hlt y
      have hdrop : ds.drop i = d :: ds.drop (i + 1) := by
        rw [List.drop_eq_getElem_cons hlt]
        rw [List.getElem?_eq_getElem hlt] at hd
        rw [Option.some.inj hd]
      rw [hdrop, genF_cons] at hk
      rw [← w2]
      split at hk
      · rename_i hio
        cases ht : T d (wipeR r2 own) with
        | none => rw [ht] at hk; exact absurd hk hst
        | some r3 =>
          rw [ht] at hk
          refine ⟨B, _, G0, G3, _, d, r3, (i2.wipe hio).grow gr, rv, ht, fun G4 H4 s4 e4 i4 l4 => ?_⟩
          have l4 : Like own (L2.wipe s2 own) s4 := l4.sub hns
          have lk : Like own s2 s4 := ⟨l4.1.trans wipe_self.1, fun j n => (l4.2 j n).trans (wipe_self.2 j n)⟩
          have ls : Like own s s4 := ⟨lk.1.trans l2.1, fun j n => (lk.2 j n).trans (l2.2 j n)⟩
          refine ⟨wipe_set lk, B, _, G0, G4, r3, i4, ?_⟩
          have hk : k (match tt r3 with
            | .ok true r2 => match elt r2 with
              | .ok (.bool k) r3 => if k = stop then .ok (.bool stop) r3 else genF stop own T tt elt (ds.drop (i + 1)) r3
              | _ => .st
            | .ok false r2 => genF stop own T tt elt (ds.drop (i + 1)) r2
            | _ => .st) := hk
          have e14 : Same G1 G4 := e2.trans (gr.g.trans e4)
          cases hb : tt r3 with
          | st => rw [hb] at hk; exact absurd hk hst
          | ex _ _ => rw [hb] at hk; exact absurd hk hst
          | ok b r5 =>
            rw [hb] at hk
            intro G5 H5 b' e5 i5 hbb
            have hbb : b = b' := hbb
            subst hbb
            cases b with
            | false => exact ⟨G5, r5, s4, e14.trans e5, ls, i5, hk⟩
            | true =>
              have hk : k (match elt r5 with
                | .ok (.bool k) r3 => if k = stop then .ok (.bool stop) r3 else genF stop own T tt elt (ds.drop (i + 1)) r3
                | _ => .st) := hk
              refine ⟨B, _, G0, G5, r5, i5, ?_⟩
              cases he : elt r5 with
              | st => rw [he] at hk; exact absurd hk hst
              | ex _ _ => rw [he] at hk; exact absurd hk hst
              | ok y r6 =>
                rw [he] at hk
                intro G6 H6 v e6 i6 hv
                cases y with
                | bool b =>
                  refine ⟨b, hv, ?_⟩
                  have hk : k (if b = stop then .ok (.bool stop) r6 else genF stop own T tt elt (ds.drop (i + 1)) r6) := hk
                  split
                  · rename_i hbs
                    rw [if_pos hbs] at hk
                    exact fin ((e14.trans e5).trans e6) ls i6 hk
                  · rename_i hbs
                    rw [if_neg hbs] at hk
                    exact ⟨G6, r6, s4, (e14.trans e5).trans e6, ls, i6, hk⟩
                | none => exact absurd hk hst
                | int _ => exact absurd hk hst
                | str _ => exact absurd hk hst
                | list _ => exact absurd hk hst
                | tuple _ => exact absurd hk hst
                | dict _ => exact absurd hk hst
      · exact absurd hk hst
    · have hl : i = ds.length := by omega
      subst hl
      rw [List.drop_length] at hk
      exact .inl ⟨ok.stop H' (e2.trans i2.gh), fin e2 l2 i2 hk⟩
end
section
variable {X : Cx} {TG : List TbK} {W : WX} {elt tg iter : Expr} {ifs : List Expr} {scope : Scope} {own : List (Str × Nat)} {ns : List Nat} {it : M (List PyData)} {T : Tg} {t : M Bool} {d : M PyData} {c P : Addr} {k : Nat} {gpos p pos : Pos}
/-- the parts, in the generator's frame -/
structure GenDs (X : Cx) (TG : List TbK) (k : Nat) (scope : Scope) (tg elt : Expr) (ifs : List Expr) (ns : List Nat) (T : Tg) (t : M Bool) (d : M PyData) : Prop where
  g : ∀ (A : Around) (s : Shared) (H : Hp) (C : Addr) (code : Value) (fp : List Addr) (pn : List (Addr × Obj)), Room k (A.deeper (gnEnv X scope C code)) → DG (gcx X A s H (gnEnv X scope C code) fp pn) TG tg ns T
  t : ∀ (A : Around) (s : Shared) (H : Hp) (C : Addr) (code : Value) (fp : List Addr) (pn : List (Addr × Obj)), Room k (A.deeper (gnEnv X scope C code)) → DTs (gcx X A s H (gnEnv X scope C code) fp pn) TG W0 ifs t
  e : ∀ (A : Around) (s : Shared) (H : Hp) (C : Addr) (code : Value) (fp : List Addr) (pn : List (Addr × Obj)), Room k (A.deeper (gnEnv X scope C code)) → DE (gcx X A s H (gnEnv X scope C code) fp pn) TG W0 elt d
theorem GenDs.ps (h : GenDs X TG k scope tg elt ifs ns T t d) : GenPs X k scope tg elt ifs (rdG X.K TG ns T) (rd X.K TG W0 RB t) (rd X.K TG W0 (RE X.K) d) := ⟨h.g, h.t, h.e⟩
theorem de_all (hr : Room (k + 3) X.A) (hc : X.calm = true) (hN : X.N.Nodup) (hg : Gl X "all") (hm : X.mg "all" = none) (TB : GxR.TabB X.base X.mg c P) (hP : (⟨P, none⟩ : TbK) ∈ TG ∧ ∀ z ∈ TG, z.P = P → z.q = none) (hcode : X.env.code = .ref c) (S : GnS X.N X.env.scope scope own) (hi : DI X TG W tg iter it)
    (ps : GenDs X TG k scope tg elt ifs ns T t d) (hns : ∀ i ∈ ns, i ∈ own.map (·.2) := by decide) (hs : ∀ v, genFold iter X.env v = pure v := by intro _; rfl)
    (he : starEach [.GeneratorExp elt [⟨tg, iter, ifs, 0⟩] scope gpos] X.env = (false, eval (.GeneratorExp elt [⟨tg, iter, ifs, 0⟩] scope gpos) X.env) :: starEach [] X.env := by rfl) :
    DE X TG W (.Call (.Name "all" p) [.GeneratorExp elt [⟨tg, iter, ifs, 0⟩] scope gpos] [] pos) (dGen false (own.map (·.2)) it T t d) := PE_imp (pe_all hr hc hN hg hm TB hcode S hi ps.ps hs he) fun s H Q q => rd_gen hP hns q
theorem de_any (hr : Room (k + 3) X.A) (hc : X.calm = true) (hN : X.N.Nodup) (hg : Gl X "any") (hm : X.mg "any" = none) (TB : GxR.TabB X.base X.mg c P) (hP : (⟨P, none⟩ : TbK) ∈ TG ∧ ∀ z ∈ TG, z.P = P → z.q = none) (hcode : X.env.code = .ref c) (S : GnS X.N X.env.scope scope own) (hi : DI X TG W tg iter it)
    (ps : GenDs X TG k scope tg elt ifs ns T t d) (hns : ∀ i ∈ ns, i ∈ own.map (·.2) := by decide) (hs : ∀ v, genFold iter X.env v = pure v := by intro _; rfl)
    (he : starEach [.GeneratorExp elt [⟨tg, iter, ifs, 0⟩] scope gpos] X.env = (false, eval (.GeneratorExp elt [⟨tg, iter, ifs, 0⟩] scope gpos) X.env) :: starEach [] X.env := by rfl) :
    DE X TG W (.Call (.Name "any" p) [.GeneratorExp elt [⟨tg, iter, ifs, 0⟩] scope gpos] [] pos) (dGen true (own.map (·.2)) it T t d) := PE_imp (pe_any hr hc hN hg hm TB hcode S hi ps.ps hs he) fun s H Q q => rd_gen hP hns q
end
end TW

end
section
namespace TW
open PySem PySem.Spec PyProof.Rows L2

/-! ### values that stand in the written part -/
mutual
def rvB (K : PySem.W.Frag) : PyData → Value → Bool
  | .none, u => (match u with | .none => true | _ => false)
  | .bool b, u => (match u with | .bool c => b == c | _ => false)
  | .int i, u => (match u with | .int j _ => decide (i = j) | _ => false)
  | .str x, u => (match u with | .str y _ => decide (x = y) | _ => false)
  | .tuple ds, u => (match u with
    | .ref a => (match K.lookup a with
      | some ⟨.type c, _, .seq its _, _⟩ => decide (c = "tuple") && (decide (its.size ≤ 16777216) && rvBs K ds its.toList)
      | _ => false)
    | _ => false)
  | .list _, _ => false
  | .dict _, _ => false
def rvBs (K : PySem.W.Frag) : List PyData → List Value → Bool
  | [], us => us.isEmpty
  | d :: ds, us => (match us with
    | u :: us => rvB K d u && rvBs K ds us
    | [] => false)
end
mutual
theorem rvB_ok {K : PySem.W.Frag} {G : Hp} : ∀ (d : PyData) (u : Value), rvB K d u = true → ∃ v, RelV v u ∧ Rv K G d v
  | .none, u, h => by
    unfold rvB at h
    split at h
    · exact ⟨.non, rfl, rfl⟩
    · cases h
  | .bool b, u, h => by
    unfold rvB at h
    split at h
    · have := eq_of_beq h
      subst this
      exact ⟨.bl b, rfl, rfl⟩
    · cases h
  | .int i, u, h => by
    unfold rvB at h
    split at h
    · have := of_decide_eq_true h
      subst this
      exact ⟨.int i, ⟨_, rfl⟩, rfl⟩
    · cases h
  | .str x, u, h => by
    unfold rvB at h
    split at h
    · have := of_decide_eq_true h
      subst this
      exact ⟨.str x, ⟨_, rfl⟩, rfl⟩
    · cases h
  | .tuple ds, u, h => by
    unfold rvB at h
    split at h
    · rename_i a
      split at h
      · rename_i c od its n sl hk
        rw [Bool.and_eq_true, Bool.and_eq_true] at h
        obtain ⟨h1, h2, h3⟩ := h
        have h1 := of_decide_eq_true h1
        subst h1
        obtain ⟨vs, k1, k2⟩ := rvBs_ok (G := G) ds its.toList h3
        exact ⟨.ref a, rfl, a, vs, rfl, .inr ⟨_, its, n, hk, rfl, rfl, by rw [sizeLine_eq]; exact of_decide_eq_true h2, k1⟩, k2⟩
      · cases h
    · cases h
  | .list _, u, h => by unfold rvB at h; cases h
  | .dict _, u, h => by unfold rvB at h; cases h
theorem rvBs_ok {K : PySem.W.Frag} {G : Hp} : ∀ (ds : List PyData) (us : List Value), rvBs K ds us = true → ∃ vs, Vals vs us ∧ RvA K G ds vs
  | [], us, h => by
    unfold rvBs at h
    cases us with
    | nil => exact ⟨[], .nil, rfl⟩
    | cons _ _ => cases h
  | d :: ds, us, h => by
    unfold rvBs at h
    cases us with
    | nil => cases h
    | cons u us =>
      have h : (rvB K d u && rvBs K ds us) = true := h
      rw [Bool.and_eq_true] at h
      obtain ⟨v, a1, a2⟩ := rvB_ok (G := G) d u h.1
      obtain ⟨vs, b1, b2⟩ := rvBs_ok (G := G) ds us h.2
      exact ⟨v :: vs, .cons a1 b1, v, vs, rfl, a2, b2⟩
end
/-- the module's name x stands for the value d -/
def conB (K : PySem.W.Frag) (x : Str) (d : PyData) : Bool := match PySem.W.nsIn K mainGlobals x with
  | some (some u) => rvB K d u
  | _ => false
def Con (K : PySem.W.Frag) (mg : Str → Option Value) (x : Str) (d : PyData) : Prop := ∃ u v, mg x = some u ∧ RelV v u ∧ Rv K (fun _ => none) d v
theorem con_ok {K : PySem.W.Frag} {h : Heap} {mg : Str → Option Value} (X : K.In h) (G : h.Ns mainGlobals mg) {x : Str} {d : PyData} (c : conB K x d = true) : Con K mg x d := by
  unfold conB at c
  split at c
  · rename_i u hu
    obtain ⟨v, a, b⟩ := rvB_ok (G := fun _ => none) d u c
    exact ⟨u, v, PySem.W.mg_of X G hu, a, b⟩
  · cases c
section
variable {X : Cx} {TG : List TbK} {W : WX} {x : Str} {d : PyData} {pos : Pos}
theorem de_con (hg : Gl X x) (h : Con X.K X.mg x d) (hd : (x == ("__debug__" : Str)) = false := by decide) : DE X TG W (.Name x pos) (dC d) := let ⟨u, v, h1, h2, h3⟩ := h; de_glob hg h1 h2 h3 hd
end
/-! ### defs whose code object is known -/
section
variable {P : Program} {w : World} {K : PySem.W.Frag} {mg : Str → Option Value} {base : Heap} {x qual : Str} {params : Arguments} {body : List Stmt} {scope : Scope} {dvs : List V} {kws : List (Str × V)} {f c : Addr} {fd : FuncData} {TG : List TbK}
theorem def_okC {N ps : List Str} {k n m : Nat} {b : M Fl} (F : FunD K x qual params body scope dvs kws f fd) (hc : fd.code = .ref c) (S : FnScope N ps scope) (hn : ps.length = n) (hm : N.length = m)
    (hbody : ∀ (A : Around) (outer : List Env) (s : Shared) (H : Hp) (E : XK), Room k (A.deeper (envOfC qual scope s.heap.objs.size f (.ref c))) →
      DSs (cxOf (L2.CX P w) P w K mg base N qual scope f (.ref c) A outer s H E) TG (fun c dx _ H' => E c dx H') body b) : FnOk P w K mg base (L2.CX P w) (k + 1) f fd ps (SpOf K TG n (fnOf n m b)) := by
  obtain ⟨oc, od, dV, kV, doc, pm, an, cdv, ct, osl, rfl, lk, hcd, _, _⟩ := F.ex
  have hc : cdv = .ref c := hc
  subst hc
  refine fn_of lk hcd S (fun vs H Q E h => by rw [hn]; exact h.1) fun A outer s H vs Q E hr hsp => ⟨_, hbody A outer s H E hr, ?_⟩
  obtain ⟨hl, B, FF, G0, G, sl, i, p⟩ := hsp
  have el : sl.length = n := by rw [i.len, List.length_map, hl]
  refine ⟨B, FF, G0, G, sl ++ List.replicate (m - n) .un, ?_, ?_⟩
  · have := i.pad (m - n)
    unfold L2.start
    rw [hm, hl]
    exact this
  · unfold fnOf at p
    rw [if_pos el] at p
    cases hb : b (sl ++ List.replicate (m - n) .un) with
    | st => rw [hb] at p; exact p
    | ex e r => rw [hb] at p; exact fun G' H' s c dx e' i' => p G' H' c dx s e' i'
    | ok fl r =>
      rw [hb] at p
      cases fl with
      | nx => exact fun G' H' s e' i' => p G' H' V.non s e' i' rfl
      | rt d => exact fun G' H' s e' i' v hv => p G' H' v s e' i' hv
      | bk => exact p.elim
      | ct => exact p.elim
end
/-! ### dicts of the module, text keys -/
def KTab (K : PySem.W.Frag) (w : World) (mg : Str → Option Value) (x : Str) (tbl : List (Str × PyData)) : Prop :=
  ∃ a es n, mg x = some (.ref a) ∧ KDict K w a es n ∧ ∀ p ∈ tbl, ∃ u v, PySem.W.nsIn K a p.1 = some (some u) ∧ RelV v u ∧ Rv K (fun _ => none) p.2 v
def ktB (K : PySem.W.Frag) (x : Str) (tbl : List (Str × PyData)) : Bool := tbl.all fun p => match PySem.W.nsIn K (He.ga K x) p.1 with
  | some (some u) => rvB K p.2 u
  | _ => false
theorem kt_ok {K : PySem.W.Frag} {w : World} {h : Heap} {mg : Str → Option Value} (X : K.In h) (G : h.Ns mainGlobals mg) {x : Str} {tbl : List (Str × PyData)} (c0 : (He.Fa.glo x).ok K = true) (hd : ∃ es n, KDict K w (He.ga K x) es n) (c : ktB K x tbl = true) : KTab K w mg x tbl := by
  obtain ⟨es, n, hd⟩ := hd
  refine ⟨_, es, n, He.glo_ok X G c0, hd, fun p hp => ?_⟩
  have := List.all_eq_true.mp c p hp
  split at this
  · rename_i u hu
    obtain ⟨v, a, b⟩ := rvB_ok (G := fun _ => none) p.2 u this
    exact ⟨u, v, hu, a, b⟩
  · cases this
def fKix (tbl : List (Str × PyData)) : PyData → Option PyData
  | .str x => tbl.lookup x
  | _ => none
def dKix (tbl : List (Str × PyData)) (db : M PyData) : M PyData := db.bind fun d => .opt (fKix tbl d)
section
variable {X : Cx} {TG : List TbK} {W : WX} {x : Str} {b : Expr} {db : M PyData} {tbl : List (Str × PyData)} {pos px : Pos}
theorem de_kix (hg : Gl X x) (h : KTab X.K X.w X.mg x tbl) (hb : DE X TG W b db) (hs : PlainIx b) (hd : (x == ("__debug__" : Str)) = false := by decide) : DE X TG W (.Subscript (.Name x px) b pos) (dKix tbl db) := by
  obtain ⟨a, es, n, h1, h2, h3⟩ := h
  refine PE_imp (pe_ix ix_kdict (pe_glob (v := .ref a) hg h1 rfl hd) hb hs) fun s H Q q => ?_
  obtain ⟨B, F, G0, G, r, i, p⟩ := rd_bind (R1 := RE X.K) q
  refine ⟨B, F, G0, G, r, i, post_imp (fun y H1 q => ?_) _ p⟩
  obtain ⟨B, F, G0, G1, r1, d, i1, v1, p1⟩ := q
  cases hz : fKix tbl d with
  | none => rw [hz] at p1; exact p1.elim
  | some z =>
    rw [hz] at p1
    unfold fKix at hz
    split at hz
    · rename_i k
      obtain ⟨u, v, k1, k2, k3⟩ := h3 _ (PySem.mem_of_lookup hz)
      exact ⟨a, k, v, rfl, v1, ⟨es, n, u, h2.at_, h2.lit, k1, k2⟩, p1 G1 H1 v (.refl _) i1 (Rv.mono (fun _ _ z => by cases z) _ _ k3)⟩
    · cases hz
end
end TW

end
section
namespace TW
open PySem PySem.Spec PyProof.Rows L2

/-! ### several values or new lists at once -/
inductive Hld (K : PySem.W.Frag) (G0 G : Hp) : Hp → List Rz → List V → Hp → Prop where
  | nil {F : Hp} : Hld K G0 G F [] [] F
  | v {F Fh : Hp} {d : PyData} {x : V} {as : List Rz} {vs : List V} (h : Rv K G d x) (t : Hld K G0 G F as vs Fh) : Hld K G0 G F (.v d :: as) (x :: vs) Fh
  | l {F Fh : Hp} {ds : List PyData} {a : Addr} {xs : List V} {as : List Rz} {vs : List V} (f : F a = none) (g : G0 a = none) (h : RvA K G ds xs) (t : Hld K G0 G (upd F a (.lst xs)) as vs Fh) : Hld K G0 G F (.l ds :: as) (.ref a :: vs) Fh
theorem Hld.mono {K : PySem.W.Frag} {G0 G G' F Fh : Hp} {as : List Rz} {vs : List V} (e : Same G G') (h : Hld K G0 G F as vs Fh) : Hld K G0 G' F as vs Fh := by
  induction h with
  | nil => exact .nil
  | v h _ ih => exact .v (Rv.mono e _ _ h) ih
  | l f g h _ ih => exact .l f g (RvA.mono e _ _ h) ih
section
variable (K : PySem.W.Frag) (TG : List TbK) (W : WX)
def postAX (B : List (Nat × Addr)) (F G0 G : Hp) (s : L2.St) (Q : List V → Hp → Prop) : Res (List Rz) → Prop
  | .ok as r => ∀ G' H' Fh vs, Same G G' → SR K TG B Fh G0 G' H' r s → Hld K G0 G' F as vs Fh → Q vs H'
  | .ex e r => ∀ G' H' c dx, Same G G' → SR K TG B F G0 G' H' r s → ExR K G' e c dx → W c dx s H'
  | .st => False
def rdAX (d : M (List Rz)) : TA := fun s H Q => ∃ B F G0 G r, SR K TG B F G0 G H r s ∧ postAX K TG W B F G0 G s Q (d r)
end
def DAX (X : Cx) (TG : List TbK) (W : WX) (es : List Expr) (d : M (List Rz)) : Prop := PA X es (rdAX X.K TG W d)
def axNil : M (List Rz) := .ret []
/-- the list's evaluation may raise at its first place alone -/
def axCons (d : M Rz) (r : M (List Rz)) : M (List Rz) := d.bind fun x z => match r z with
  | .ok xs z' => .ok (x :: xs) z'
  | _ => .st
section
variable {K : PySem.W.Frag} {TG : List TbK} {B : List (Nat × Addr)} {F G0 G H : Hp} {r : List Sl} {s : L2.St}
theorem SR.heldF (i : SR K TG B F G0 G H r s) {a : Addr} {xs : List V} (hH : H a = some (.lst xs)) (hG : G a = none) (hs : ∀ (j : Nat) (es : List PyData), r[j]?.bind Sl.own = some es → s[j]? ≠ some (some (V.ref a))) : SR K TG B (upd F a (.lst xs)) G0 G H r s := by
  refine ⟨i.len, i.gh, fun b u q => ?_, i.g0, fun b u q => ?_, i.gt, fun b ps q => ?_, i.tb, i.vals, fun j ds q => ?_, i.sep, i.ios⟩
  · by_cases z : b = a
    · subst z; rw [upd_same] at q; cases q; exact hH
    · rw [upd_ne z] at q; exact i.fh _ _ q
  · have z : b ≠ a := fun e => by subst e; rw [hG] at q; cases q
    rw [upd_ne z]
    exact i.fg b u q
  · by_cases z : b = a
    · subst z; rw [upd_same] at q; cases q
    · rw [upd_ne z] at q; exact i.ft _ _ q
  · obtain ⟨a', ys, h1, h2, h3, h4, h5⟩ := i.owns j ds q
    have z : a' ≠ a := fun e => hs j ds q (by rw [← e]; exact h1)
    exact ⟨a', ys, h1, h2, h3, h4, by rw [upd_ne z]; exact h5⟩
end
section
variable {X : Cx} {TG : List TbK} {W : WX} {e : Expr} {es : List Expr} {d : M Rz} {r : M (List Rz)}
theorem dax_nil : DAX X TG W [] axNil := PA_imp pa_nil fun s H Q h => by
  obtain ⟨B, F, G0, G, r, i, p⟩ := h
  exact p G H F [] (.refl _) i .nil
theorem dax_cons (he : DX X TG W e d) (hr : DAX X TG W es r) (hs : starEach (e :: es) X.env = (false, eval e X.env) :: starEach es X.env := by rfl) : DAX X TG W (e :: es) (axCons d r) := PA_imp (pa_cons he hr hs) fun s H Q h => by
  obtain ⟨B, F, G0, G, z, i, p⟩ := h
  refine ⟨B, F, G0, G, z, i, ?_⟩
  unfold axCons M.bind at p
  cases hd : d z with
  | st => rw [hd] at p; exact p
  | ex x r1 => rw [hd] at p; exact p
  | ok x r1 =>
    rw [hd] at p
    have p : postAX X.K TG W B F G0 G s Q (match r r1 with
      | .ok xs z' => .ok (x :: xs) z'
      | _ => .st) := p
    cases hr : r r1 with
    | st => rw [hr] at p; exact p.elim
    | ex _ _ => rw [hr] at p; exact p.elim
    | ok xs r2 =>
      rw [hr] at p
      cases x with
      | v dv =>
        intro G1 H1 v e1 i1 hv
        refine ⟨B, F, G0, G1, r1, i1, ?_⟩
        rw [hr]
        intro G2 H2 Fh vs e2 i2 hh
        exact p G2 H2 Fh (v :: vs) (e1.trans e2) i2 (.v (Rv.mono e2 _ _ hv) hh)
      | l ds =>
        intro G1 H1 a e1 i1 fr
        obtain ⟨ys, h1, h2⟩ := fr.ex
        have i1' := i1.heldF h1 fr.g fr.sl
        refine ⟨B, _, G0, G1, r1, i1', ?_⟩
        rw [hr]
        intro G2 H2 Fh vs e2 i2 hh
        exact p G2 H2 Fh (.ref a :: vs) (e1.trans e2) i2 (.l fr.f (none_sub i1.g0 fr.g) (RvA.mono e2 _ _ h2) hh)
end
def slOf : Rz → Sl
  | .v d => .v d
  | .l ds => .l ds
def parSl : List Nat → List Rz → List Sl → Option (List Sl)
  | [], [], r => some r
  | i :: is, x :: as, r => match parSl is as r with
    | some r1 => match r1[i]? with
      | some (.io _) => none
      | some _ => some (r1.set i (slOf x))
      | none => none
    | none => none
  | _, _, _ => none
def setVs : List Nat → List V → L2.St → L2.St
  | i :: is, v :: vs, s => (setVs is vs s).set i (some v)
  | _, _, s => s
def sPar (is : List Nat) (ra : M (List Rz)) : M Fl := ra.bind fun as r => match parSl is as r with
  | some r' => .ok .nx r'
  | none => .st
section
variable {K : PySem.W.Frag} {TG : List TbK} {B : List (Nat × Addr)} {G0 G H : Hp} {r : List Sl} {s : L2.St}
theorem SR.parSet {F Fh : Hp} {as : List Rz} {vs : List V} (h : Hld K G0 G F as vs Fh) : ∀ {is : List Nat} {r' : List Sl}, SR K TG B Fh G0 G H r s → TW.parSl is as r = some r' → SR K TG B F G0 G H r' (setVs is vs s) := by
  induction h with
  | nil =>
    intro is r' i e
    cases is with
    | nil => cases e; exact i
    | cons _ _ => cases e
  | @v F Fh d x as vs hx _ ih =>
    intro is r' i e
    cases is with
    | nil => cases e
    | cons j is =>
      have e : (match TW.parSl is as r with
        | some r1 => match r1[j]? with
          | some (.io _) => none
          | some _ => some (r1.set j (.v d))
          | none => none
        | none => none) = some r' := e
      cases h1 : TW.parSl is as r with
      | none => rw [h1] at e; cases e
      | some r1 =>
        rw [h1] at e
        have i1 := ih i h1
        have e : (match r1[j]? with
          | some (.io _) => none
          | some _ => some (r1.set j (.v d))
          | none => none) = some r' := e
        cases hj : r1[j]? with
        | none => rw [hj] at e; cases e
        | some y =>
          have hl : j < r1.length := (List.getElem?_eq_some_iff.mp hj).1
          rw [hj] at e
          cases y with
          | io _ => cases e
          | un => cases e; exact i1.setv hl (fun ds z => by rw [hj] at z; cases z) hx
          | v _ => cases e; exact i1.setv hl (fun ds z => by rw [hj] at z; cases z) hx
          | l _ => cases e; exact i1.setv hl (fun ds z => by rw [hj] at z; cases z) hx
  | @l F Fh ds a xs as vs f g hx _ ih =>
    intro is r' i e
    cases is with
    | nil => cases e
    | cons j is =>
      have e : (match TW.parSl is as r with
        | some r1 => match r1[j]? with
          | some (.io _) => none
          | some _ => some (r1.set j (.l ds))
          | none => none
        | none => none) = some r' := e
      cases h1 : TW.parSl is as r with
      | none => rw [h1] at e; cases e
      | some r1 =>
        rw [h1] at e
        have i1 := ih i h1
        have i2 := i1.loose f
        have fr : Free K B F G H r1 (setVs is vs s) a ds := ⟨⟨xs, i1.fh _ _ upd_same, hx⟩, i1.gnone g, f, fun k es q => by
          obtain ⟨b, zs, q1, q2, q3, q4, q5⟩ := i1.owns k es q
          rw [q1]
          intro z
          cases z
          rw [upd_same] at q5
          cases q5⟩
        have e : (match r1[j]? with
          | some (.io _) => none
          | some _ => some (r1.set j (.l ds))
          | none => none) = some r' := e
        cases hj : r1[j]? with
        | none => rw [hj] at e; cases e
        | some y =>
          have hl : j < r1.length := (List.getElem?_eq_some_iff.mp hj).1
          rw [hj] at e
          cases y with
          | io _ => cases e
          | un => cases e; exact i2.setl hl (fun ds z => by rw [hj] at z; cases z) fr
          | v _ => cases e; exact i2.setl hl (fun ds z => by rw [hj] at z; cases z) fr
          | l _ => cases e; exact i2.setl hl (fun ds z => by rw [hj] at z; cases z) fr
end
section
variable {X : Cx} {TG : List TbK} {W : WX} {ra : M (List Rz)}
theorem rdS_par {is : List Nat} {D : Ends} {s : L2.St} {H : Hp} (h : rdS X.K TG W (sPar is ra) D s H) : rdAX X.K TG W ra s H fun vs H1 => vs.length = is.length ∧ ∀ H2, (∀ (G : Hp), Same G H1 → Grow G H1 G H2) → D.nx (setVs is vs s) H2 := by
  obtain ⟨B, F, G0, G, z, i, p⟩ := h
  refine ⟨B, F, G0, G, z, i, ?_⟩
  unfold sPar M.bind at p
  cases hr : ra z with
  | st => rw [hr] at p; exact p
  | ex x r1 => rw [hr] at p; exact fun G' H' c dx => p G' H' s c dx
  | ok as r1 =>
    rw [hr] at p
    intro G1 H1 Fh vs e1 i1 hh
    have p : postS X.K TG W B F G0 G D (match parSl is as r1 with
      | some r' => .ok .nx r'
      | none => .st) := p
    cases hp : parSl is as r1 with
    | none => rw [hp] at p; exact p.elim
    | some r2 =>
      rw [hp] at p
      have len : ∀ {F Fh : Hp} {as : List Rz} {vs : List V}, Hld X.K G0 G1 F as vs Fh → ∀ {is : List Nat} {r2 : List Sl}, parSl is as r1 = some r2 → vs.length = is.length := fun h => by
        induction h with
        | nil =>
          intro is r2 e
          cases is with
          | nil => rfl
          | cons _ _ => cases e
        | v _ _ ih =>
          intro is r2 e
          cases is with
          | nil => cases e
          | cons j is =>
            unfold parSl at e
            split at e
            · rename_i r3 h3; simp [ih h3]
            · cases e
        | l _ _ _ _ ih =>
          intro is r2 e
          cases is with
          | nil => cases e
          | cons j is =>
            unfold parSl at e
            split at e
            · rename_i r3 h3; simp [ih h3]
            · cases e
      exact ⟨len hh hp, fun H2 g => p G1 H2 _ e1 ((i1.parSet hh hp).grow (g G1 i1.gh))⟩
variable {a b c : Expr} {i j l : Nat} {x y z : Str} {px py pz pt pos : Pos} {kt k2 : Nat} {pt2 : Pos}
theorem ds_par2 (hc : X.calm = true) (hN : X.N.Nodup) (hi : X.N[i]? = some x) (hj : X.N[j]? = some y) (hij : i ≠ j)
    (hx : X.env.scope.names.lookup x = some .local) (hy : X.env.scope.names.lookup y = some .local) (ha : DAX X TG W [a, b] ra)
    (hw : swappedStores [.Tuple [.Name x px, .Name y py] kt pt] (.Tuple [a, b] k2 pt2) X.env = pure (some [x, y]))
    (hs : swapsWithSole [.Tuple [.Name x px, .Name y py] kt pt] (.Tuple [a, b] k2 pt2) pos.line X.env = pure false := by rfl) :
    DS X TG W (.Assign [.Tuple [.Name x px, .Name y py] kt pt] (.Tuple [a, b] k2 pt2) pos) (sPar [i, j] ra) := PS_imp (ps_par hc hN hi hj hij hx hy ha hw hs) fun D s H q => by
  obtain ⟨B, F, G0, G, z, ir, p⟩ := rdS_par q
  refine ⟨B, F, G0, G, z, ir, ?_⟩
  cases hr : ra z with
  | st => rw [hr] at p; exact p
  | ex x r1 => rw [hr] at p; exact p
  | ok as r1 =>
    rw [hr] at p
    intro G1 H1 Fh vs e1 i1 hh
    obtain ⟨hl, q⟩ := p G1 H1 Fh vs e1 i1 hh
    match vs, hl with
    | [u, v], _ =>
      refine ⟨u, v, rfl, ?_⟩
      have := q H1 fun G e => .refl e
      have e : setVs [i, j] [u, v] s = (s.set i (some u)).set j (some v) := by
        show (s.set j (some v)).set i (some u) = _
        exact List.set_comm _ _ (Ne.symm hij)
      rw [e] at this
      exact this
theorem ds_par3 (hc : X.calm = true) (hN : X.N.Nodup) (hi : X.N[i]? = some x) (hj : X.N[j]? = some y) (hl : X.N[l]? = some z) (hij : i ≠ j) (hil : i ≠ l) (hjl : j ≠ l)
    (hx : X.env.scope.names.lookup x = some .local) (hy : X.env.scope.names.lookup y = some .local) (hz : X.env.scope.names.lookup z = some .local) (ha : DAX X TG W [a, b, c] ra)
    (hw : swappedStores [.Tuple [.Name x px, .Name y py, .Name z pz] kt pt] (.Tuple [a, b, c] k2 pt2) X.env = pure (some [x, y, z]))
    (hs : swapsWithSole [.Tuple [.Name x px, .Name y py, .Name z pz] kt pt] (.Tuple [a, b, c] k2 pt2) pos.line X.env = pure false := by rfl) :
    DS X TG W (.Assign [.Tuple [.Name x px, .Name y py, .Name z pz] kt pt] (.Tuple [a, b, c] k2 pt2) pos) (sPar [i, j, l] ra) := PS_imp (ps_par3 hc hN hi hj hl hij hil hjl hx hy hz ha hw hs) fun D s H q => by
  obtain ⟨B, F, G0, G, zz, ir, p⟩ := rdS_par q
  refine ⟨B, F, G0, G, zz, ir, ?_⟩
  cases hr : ra zz with
  | st => rw [hr] at p; exact p
  | ex x r1 => rw [hr] at p; exact p
  | ok as r1 =>
    rw [hr] at p
    intro G1 H1 Fh vs e1 i1 hh
    obtain ⟨hl, q⟩ := p G1 H1 Fh vs e1 i1 hh
    match vs, hl with
    | [u, v, w], _ =>
      refine ⟨u, v, w, rfl, ?_⟩
      have := q H1 fun G e => .refl e
      have e : setVs [i, j, l] [u, v, w] s = ((s.set i (some u)).set j (some v)).set l (some w) := by
        show ((s.set l (some w)).set j (some v)).set i (some u) = _
        rw [List.set_comm (some v) (some u) (Ne.symm hij), List.set_comm (some w) (some u) (Ne.symm hil), List.set_comm (some w) (some v) (Ne.symm hjl)]
      rw [e] at this
      exact this
def gNames : List Nat → L2.TGs
  | [] => gNil
  | i :: is => gCons (gName i) (gNames is)
theorem setVs_out {i : Nat} {v : V} : ∀ {is : List Nat} {vs : List V} {s : L2.St}, i ∉ is → setVs is vs (s.set i (some v)) = (setVs is vs s).set i (some v)
  | [], [], _, _ => rfl
  | [], _ :: _, _, _ => rfl
  | _ :: _, [], _, _ => rfl
  | j :: is, w :: vs, s, h => by
    have h1 : i ≠ j := fun e => h (by rw [e]; exact List.mem_cons_self)
    have h2 : i ∉ is := fun m => h (List.mem_cons_of_mem _ m)
    show (setVs is vs (s.set i (some v))).set j (some w) = ((setVs is vs s).set j (some w)).set i (some v)
    rw [setVs_out h2, List.set_comm _ _ h1]
theorem gNames_of : ∀ {is : List Nat} {vs : List V} {s : L2.St} {H : Hp} {Q : L2.St → Hp → Prop}, nodupB is = true → vs.length = is.length → Q (setVs is vs s) H → gNames is vs s H Q
  | [], [], _, _, _, _, _, q => ⟨rfl, q⟩
  | [], _ :: _, _, _, _, _, h, _ => by cases h
  | _ :: _, [], _, _, _, _, h, _ => by cases h
  | i :: is, v :: vs, s, H, Q, nd, h, q => by
    have nd : (!is.contains i && nodupB is) = true := nd
    rw [Bool.and_eq_true] at nd
    have hi : i ∉ is := by simpa using nd.1
    refine ⟨v, vs, rfl, gNames_of nd.2 (by simpa using h) ?_⟩
    rw [setVs_out hi]
    exact q
theorem ds_parG {tgs es : List Expr} {is : List Nat} (hc : X.calm = true) (hg : PGs X tgs (gNames is)) (nd : nodupB is = true) (ha : DAX X TG W es ra) (hz : is.length ≤ 16777216 := by decide)
    (hn : (assignEach tgs X.env).length = is.length := by rfl) (hst : (assignEach tgs X.env).findIdx? (·.1) = none := by rfl)
    (hs : swapsWithSole [.Tuple tgs kt pt] (.Tuple es k2 pt2) pos.line X.env = pure false := by rfl) (hw : swappedStores [.Tuple tgs kt pt] (.Tuple es k2 pt2) X.env = pure none := by rfl)
    (h1 : (assignEach [.Tuple tgs kt pt] X.env).map (·.2) = [assign (.Tuple tgs kt pt) X.env] := by rfl) :
    DS X TG W (.Assign [.Tuple tgs kt pt] (.Tuple es k2 pt2) pos) (sPar is ra) := PS_imp (L2.ps_asg (pe_tup ha) (pg_tup hc hg hn hst) hs hw h1) fun D s H q => by
  obtain ⟨B, F, G0, G, zz, ir, p⟩ := rdS_par q
  refine ⟨B, F, G0, G, zz, ir, ?_⟩
  cases hr : ra zz with
  | st => rw [hr] at p; exact p
  | ex x r1 => rw [hr] at p; exact p
  | ok as r1 =>
    rw [hr] at p
    intro G1 H1 Fh vs e1 i1 hh
    obtain ⟨hl, q⟩ := p G1 H1 Fh vs e1 i1 hh
    refine ⟨by rw [hl, sizeLine_eq]; exact hz, fun p hp => ⟨p, vs, rfl, .inl (.inl upd_same), hl, gNames_of nd hl (q _ fun G e => grow_out e hp)⟩⟩
end
end TW

end
section
/-! sorted of data: ints, texts, tuples that can be told apart place by place. -/
namespace TW
open PySem PySem.Spec PyProof.Rows L2

/-! ### the order -/
def insD (d : PyData) : List PyData → List PyData
  | [] => [d]
  | x :: l => if PySem.W.dataLt x d = true then x :: insD d l else d :: x :: l
def isortD : List PyData → List PyData
  | [] => []
  | d :: l => insD d (isortD l)
theorem data_swo : SrtO.Swo PySem.W.dataLt := by
  refine ⟨fun x y h => ?_, fun x y z h1 h2 => ?_⟩
  · cases q : PySem.W.dataLt y x with
    | false => rfl
    | true =>
      have e := PyProof.Rows.lex_trans (O := PyProof.Rows.itemOrd) _ _ _ h q
      rw [PyProof.Rows.lex_irrefl] at e
      cases e
  · cases q : PySem.W.dataLt z x with
    | false => rfl
    | true =>
      rcases PyProof.Rows.lex_negTrans (O := PyProof.Rows.itemOrd) _ (PySem.W.keyToks y) _ q with e | e
      · have e : PySem.W.dataLt z y = true := e
        rw [h2] at e; cases e
      · have e : PySem.W.dataLt y x = true := e
        rw [h1] at e; cases e
theorem insD_mem {d z : PyData} : ∀ {l : List PyData}, z ∈ insD d l → z = d ∨ z ∈ l
  | [], h => by simpa [insD] using h
  | x :: l, h => by
    unfold insD at h
    split at h
    · rcases List.mem_cons.mp h with e | h
      · exact .inr (by rw [e]; exact List.mem_cons_self)
      · rcases insD_mem h with e | h
        · exact .inl e
        · exact .inr (List.mem_cons_of_mem _ h)
    · rcases List.mem_cons.mp h with e | h
      · exact .inl e
      · exact .inr h
theorem insD_perm (d : PyData) : ∀ l : List PyData, (insD d l).Perm (d :: l)
  | [] => List.Perm.refl _
  | x :: l => by
    unfold insD
    split
    · exact ((insD_perm d l).cons x).trans (List.Perm.swap d x l)
    · exact List.Perm.refl _
theorem insD_srtd {d : PyData} : ∀ {l : List PyData}, SrtO.Srtd PySem.W.dataLt l → SrtO.Srtd PySem.W.dataLt (insD d l)
  | [], _ => by unfold insD; exact SrtO.srtd_one _
  | x :: l, h => by
    unfold insD
    obtain ⟨h1, h2⟩ := List.pairwise_cons.mp h
    split
    · rename_i q
      refine List.pairwise_cons.mpr ⟨fun z hz => ?_, insD_srtd h2⟩
      rcases insD_mem hz with e | hz
      · rw [e]; exact data_swo.asym _ _ q
      · exact h1 z hz
    · rename_i q
      have q : PySem.W.dataLt x d = false := by simpa using q
      refine List.pairwise_cons.mpr ⟨fun z hz => ?_, h⟩
      rcases List.mem_cons.mp hz with e | hz
      · rw [e]; exact q
      · exact data_swo.tr _ _ _ q (h1 z hz)
theorem insD_cls (d y : PyData) : ∀ l : List PyData, (insD d l).filter (SrtO.eqv PySem.W.dataLt y) = (d :: l).filter (SrtO.eqv PySem.W.dataLt y)
  | [] => rfl
  | x :: l => by
    unfold insD
    split
    · rename_i q
      have ih := insD_cls d y l
      cases e1 : SrtO.eqv PySem.W.dataLt y x with
      | false =>
        rw [List.filter_cons_of_neg (by rw [e1]; simp), ih]
        cases e2 : SrtO.eqv PySem.W.dataLt y d with
        | false => rw [List.filter_cons_of_neg (by rw [e2]; simp), List.filter_cons_of_neg (by rw [e2]; simp), List.filter_cons_of_neg (by rw [e1]; simp)]
        | true => rw [List.filter_cons_of_pos (by rw [e2]), List.filter_cons_of_pos (by rw [e2]), List.filter_cons_of_neg (by rw [e1]; simp)]
      | true =>
        have e2 : SrtO.eqv PySem.W.dataLt y d = false := by
          cases e2 : SrtO.eqv PySem.W.dataLt y d with
          | false => rfl
          | true =>
            obtain ⟨a1, a2⟩ := SrtO.eqv_iff.mp e1
            obtain ⟨b1, b2⟩ := SrtO.eqv_iff.mp e2
            -- x ~ y ~ d, but x < d
            have c := data_swo.tr d y x b1 a2
            rw [c] at q
            cases q
        rw [List.filter_cons_of_pos (by rw [e1]), ih, List.filter_cons_of_neg (by rw [e2]; simp), List.filter_cons_of_neg (by rw [e2]; simp), List.filter_cons_of_pos (by rw [e1])]
    · rfl
theorem isortD_srtd : ∀ l : List PyData, SrtO.Srtd PySem.W.dataLt (isortD l)
  | [] => List.Pairwise.nil
  | d :: l => insD_srtd (isortD_srtd l)
theorem isortD_stb : ∀ l : List PyData, SrtO.Stb PySem.W.dataLt (isortD l) l
  | [] => SrtO.Stb.refl _
  | d :: l => by
    have ih := isortD_stb l
    refine ⟨(insD_perm d _).trans (ih.perm.cons d), fun x => ?_⟩
    show (insD d (isortD l)).filter _ = _
    rw [insD_cls]
    have e := ih.cls x
    cases q : SrtO.eqv PySem.W.dataLt x d with
    | true => rw [List.filter_cons_of_pos (by rw [q]), List.filter_cons_of_pos (by rw [q]), e]
    | false => rw [List.filter_cons_of_neg (by rw [q]; simp), List.filter_cons_of_neg (by rw [q]; simp), e]

/-! ### what can be sorted -/
/-- alike up to the first place where they differ -/
def cmpAll : List PyData → List PyData → Bool
  | x :: xs, y :: ys => PySem.W.alike x y && (!PyData.eqv x y || cmpAll xs ys)
  | _, _ => true
def cmpOk : PyData → PyData → Bool
  | .tuple (x :: xs), .tuple (y :: ys) => cmpAll (x :: xs) (y :: ys)
  | .int _, .int _ => true
  | .str _, .str _ => true
  | _, _ => false
def srtOk (ds : List PyData) : Bool := decide (ds.length ≤ 1) || ds.all fun d => PySem.W.alike d d && d.canLay0 && decide (d.depth ≤ 60) && ds.all (cmpOk d)
mutual
theorem reads_uniq {h : Heap} : ∀ (d d' : PyData) (v : Value) (as as' : List Addr), PySem.W.alike d d = true → Reads h v d as → Reads h v d' as' → d = d'
  | .none, _, _, _, _, _, r, r' => by cases r; cases r'; rfl
  | .bool _, _, _, _, _, _, r, r' => by cases r; cases r'; rfl
  | .int _, _, _, _, _, _, r, r' => by cases r; cases r'; rfl
  | .str _, _, _, _, _, _, r, r' => by cases r; cases r'; rfl
  | .list xs, d', _, _, _, ha, r, r' => by
    cases r with
    | list h1 h2 h3 h4 =>
      cases r' with
      | list k1 k2 k3 k4 =>
        rw [h1] at k1; cases k1
        rw [h3] at k3; cases k3
        rw [readsAll_uniq xs _ _ _ _ (by simpa [PySem.W.alike] using ha) h4 k4]
      | tuple k1 k2 k3 k4 => rw [h1] at k1; cases k1; rw [h2] at k2; exact absurd k2 (by decide)
      | dict k1 k2 k3 k4 k5 => rw [h1] at k1; cases k1; rw [h2] at k2; exact absurd k2 (by decide)
  | .tuple xs, d', _, _, _, ha, r, r' => by
    cases r with
    | tuple h1 h2 h3 h4 =>
      cases r' with
      | tuple k1 k2 k3 k4 =>
        rw [h1] at k1; cases k1
        rw [h3] at k3; cases k3
        rw [readsAll_uniq xs _ _ _ _ (by simpa [PySem.W.alike] using ha) h4 k4]
      | list k1 k2 k3 k4 => rw [h1] at k1; cases k1; rw [h2] at k2; exact absurd k2 (by decide)
      | dict k1 k2 k3 k4 k5 => rw [h1] at k1; cases k1; rw [h2] at k2; exact absurd k2 (by decide)
  | .dict _, d', _, _, _, ha, _, _ => absurd ha (by simp [PySem.W.alike])
theorem readsAll_uniq {h : Heap} : ∀ (xs ys : List PyData) (vs : List Value) (as as' : List Addr), PySem.W.alikeAll xs xs = true → ReadsAll h vs xs as → ReadsAll h vs ys as' → xs = ys
  | [], _, _, _, _, _, r, r' => by cases r; cases r'; rfl
  | x :: xs, _, _, _, _, ha, r, r' => by
    cases r with
    | cons h1 h2 =>
      cases r' with
      | cons k1 k2 => rw [reads_uniq x _ _ _ _ (PySem.W.alike_all_cons ha).1 h1 k1, readsAll_uniq xs _ _ _ _ (PySem.W.alike_all_cons ha).2 h2 k2]
end

/-! ### the comparison in the model -/
open SeqAt in
theorem katLex_cmp {prog : Program} {w : World} {A : Around} {s : Shared} {b fin : Bool} {Q : Bool → Shared → Prop} : ∀ (xs ys : List PyData) (i : Nat) (vs ws : List Value) (as bs : List Addr), ReadsAll s.heap vs xs as → ReadsAll s.heap ws ys bs → cmpAll xs ys = true →
    A.units + min (PyData.depthAll xs) (PyData.depthAll ys) < cLine → (b = true → i = 0 → ∀ x r t, xs = x :: r → x ≠ .tuple t) → fin = decide (xs.length < ys.length) → Q (PyProof.Rows.lexLt PyProof.Rows.itemOrd (PySem.W.keyToksAll xs) (PySem.W.keyToksAll ys)) s → PySem.W.KatLex prog w A b fin Q (vs.zip ws) i s
  | [], ys, i, vs, ws, as, bs, ra, rb, _, hu, hb, hf, hq => PySem.W.katLex_alike [] ys i vs ws as bs ra rb (by simp [PySem.W.alikeAll]) hu hb hf hq
  | x :: xs, [], i, vs, ws, as, bs, ra, rb, _, hu, hb, hf, hq => PySem.W.katLex_alike (x :: xs) [] i vs ws as bs ra rb (by simp [PySem.W.alikeAll]) hu hb hf hq
  | x :: xs, y :: ys, i, _, _, _, _, ra, rb, h, hu, hb, hf, hq => by
    have h : (PySem.W.alike x y && (!PyData.eqv x y || cmpAll xs ys)) = true := h
    rw [Bool.and_eq_true] at h
    obtain ⟨h1, h2⟩ := h
    have hf' : fin = decide (xs.length < ys.length) := by
      rw [hf]
      simp only [List.length_cons, Nat.add_lt_add_iff_right]
    cases ra with
    | cons r rs =>
      cases rb with
      | cons r' rs' =>
        rw [List.zip_cons_cons]
        refine PySem.W.kat_cons (PySem.W.eqAt_alike x y A s _ _ _ _ r r' h1 (room_head hu) prog w _ _ ?_)
        cases hx : PyData.eqv x y with
        | true =>
          rw [hx] at h2
          rw [PySem.W.dataLt_all_yes h1 hx] at hq
          exact PySem.W.kat_yes (katLex_cmp xs ys (i + 1) _ _ _ _ rs rs' (by simpa using h2) (room_tail hu) (fun _ hi => absurd hi (Nat.succ_ne_zero i)) hf' hq)
        | false =>
          rw [PySem.W.dataLt_all_no h1 hx] at hq
          refine PySem.W.kat_no (PySem.W.oneLt_alike (fun hbi t => ?_) r r' h1 (PySem.W.ne_none_of h1 hx) (room_head hu) hq)
          rw [Bool.and_eq_true] at hbi
          exact hb hbi.1 (by simpa using hbi.2) x xs t rfl
/-- what v reads as, of ds -/
noncomputable def datOf (h : Heap) (ds : List PyData) (v : Value) : PyData := open Classical in if q : ∃ d, d ∈ ds ∧ ∃ as, Reads h v d as then q.choose else .none
theorem datOf_eq {h : Heap} {ds : List PyData} {v : Value} {d : PyData} {as : List Addr} (al : ∀ d ∈ ds, PySem.W.alike d d = true) (hd : d ∈ ds) (r : Reads h v d as) : datOf h ds v = d := by
  have q : ∃ d, d ∈ ds ∧ ∃ as, Reads h v d as := ⟨d, hd, as, r⟩
  have e : datOf h ds v = q.choose := by
    show (open Classical in if q : ∃ d, d ∈ ds ∧ ∃ as, Reads h v d as then q.choose else .none) = _
    rw [dif_pos q]
  rw [e]
  obtain ⟨h1, as', h2⟩ := q.choose_spec
  exact reads_uniq _ _ _ _ _ (al _ h1) h2 r
theorem srtOk_all {ds : List PyData} (h : srtOk ds = true) (h2 : 2 ≤ ds.length) : ∀ d ∈ ds, PySem.W.alike d d = true ∧ d.canLay0 = true ∧ d.depth ≤ 60 ∧ ∀ d' ∈ ds, cmpOk d d' = true := by
  unfold srtOk at h
  rw [Bool.or_eq_true] at h
  rcases h with h | h
  · exact absurd (of_decide_eq_true h) (by omega)
  · intro d hd
    have q := List.all_eq_true.mp h d hd
    simp only [Bool.and_eq_true, decide_eq_true_eq] at q
    exact ⟨q.1.1.1, q.1.1.2, q.1.2, fun d' hd' => List.all_eq_true.mp q.2 d' hd'⟩
theorem cmpOk_tup {d : PyData} {x : PyData} {r : List PyData} (h : cmpOk d (.tuple (x :: r)) = true) : ∃ y q, d = .tuple (y :: q) ∧ PySem.W.alike y x = true := by
  cases d with
  | tuple ys =>
    cases ys with
    | nil => simp [cmpOk] at h
    | cons y ys =>
      have h : (PySem.W.alike y x && (!PyData.eqv y x || cmpAll ys r)) = true := h
      rw [Bool.and_eq_true] at h
      exact ⟨y, ys, rfl, h.1⟩
  | _ => simp [cmpOk] at h
theorem cmp_data {prog : Program} {w : World} {A : Around} {s : Shared} {d d' : PyData} {v v' : Value} {as as' : List Addr} {x0 : PyData} {r0 : List PyData} (r : Reads s.heap v d as) (r' : Reads s.heap v' d' as') (h : cmpOk d d' = true) (hu : A.units + min d.depth d'.depth < cLine)
    (h1 : cmpOk d (.tuple (x0 :: r0)) = true) (h2 : cmpOk d' (.tuple (x0 :: r0)) = true) :
    wpAny (model prog w) A (keyLt' (tuples' (PySem.W.dataType x0 != Value.type "tuple")) v v') (fun b s' => s' = s ∧ b = PySem.W.dataLt d d') (fun _ _ => False) s := by
  obtain ⟨y, q, rfl, al⟩ := cmpOk_tup h1
  obtain ⟨y', q', rfl, al'⟩ := cmpOk_tup h2
  rw [PySem.W.dataLt_tuple]
  cases r with
  | @tuple l o xs n _ _ h1 h2 h3 h4 =>
    cases r' with
    | @tuple l' o' xs' n' _ _ k1 k2 k3 k4 =>
      have n1 : xs.size = (y :: q).length := by simpa using SeqAt.ReadsAll.length _ _ _ h4
      have n2 : xs'.size = (y' :: q').length := by simpa using SeqAt.ReadsAll.length _ _ _ k4
      refine PySem.W.kat_lt h1 h3 k1 k3 (katLex_cmp (prog := prog) (w := w) (A := A) (s := s) (Q := fun b s' => s' = s ∧ b = PyProof.Rows.lexLt PyProof.Rows.itemOrd (PySem.W.keyToksAll (y :: q)) (PySem.W.keyToksAll (y' :: q'))) (y :: q) (y' :: q') 0 _ _ _ _ h4 k4 h (by have q := SeqAt.room_in hu; omega) (fun hb _ x r t ex => ?_) (by rw [n1, n2]) ⟨rfl, rfl⟩)
      obtain ⟨rfl, rfl⟩ := List.cons.inj ex
      rw [← PySem.W.dataType_alike al] at hb
      exact PySem.W.dataType_tuple hb t

theorem each_of {h : Heap} : ∀ {vs : List Value} {ds : List PyData} {as : List Addr}, ReadsAll h vs ds as → PySem.W.EachIs (fun v d => ∃ as, Reads h v d as) vs ds
  | _, _, _, .nil => .nil
  | _, _, _, .cons r rs => .cons ⟨_, r⟩ (each_of rs)
theorem each_keep {h h' : Heap} (k : ∀ b o, h.get? b = some o → h'.get? b = some o) {vs : List Value} {ds : List PyData} (e : PySem.W.EachIs (fun v d => ∃ as, Reads h v d as) vs ds) : PySem.W.EachIs (fun v d => ∃ as, Reads h' v d as) vs ds :=
  e.mono fun v d ⟨as, r⟩ => ⟨as, PyProof.Rows.Reads.keeps k r⟩
theorem sortableD {prog : Program} {w : World} {A : Around} {s : Shared} {h0 : Heap} {a : Addr} {vs : List Value} {ds : List PyData} (e : PySem.W.EachIs (fun v d => ∃ as, Reads h0 v d as) vs ds) (ok : srtOk ds = true) (h2 : 2 ≤ vs.length) (hl : vs.length = ds.length) (hu : A.units + 61 < cLine)
    (k0 : ∀ b o, h0.get? b = some o → b ≠ a ∧ s.heap.get? b = some o) : SrtO.SortableO prog w A s a vs (fun v u => PySem.W.dataLt (datOf h0 ds v) (datOf h0 ds u)) := by
  have all := srtOk_all ok (by omega)
  have al : ∀ d ∈ ds, PySem.W.alike d d = true := fun d hd => (all d hd).1
  intro h' keep
  have k1 : ∀ b o, h0.get? b = some o → h'.get? b = some o := fun b o q => keep b o (k0 b o q).1 (k0 b o q).2
  have e' := each_keep k1 e
  have room : ∀ {d d' : PyData}, d ∈ ds → A.units + min d.depth d'.depth < cLine := fun {d d'} hd => by
    have := (all d hd).2.2.1
    have := Nat.min_le_left d.depth d'.depth
    omega
  match ds, hl, e, ok, all, al, e', @room with
  | [], hl, _, _, _, _, _, _ => exact absurd h2 (by rw [hl]; simp)
  | d0 :: ds0, hl, e, ok, all, al, e', room =>
  have m0 : d0 ∈ d0 :: ds0 := List.mem_cons_self
  have c0 := (all d0 m0).2.2.2 d0 m0
  have rdv : ∀ v ∈ vs, ∃ d, d ∈ d0 :: ds0 ∧ (∃ as, Reads h' v d as) ∧ datOf h0 (d0 :: ds0) v = d := fun v hv => by
    obtain ⟨d, hd, as, r⟩ := e.left v hv
    exact ⟨d, hd, ⟨as, PyProof.Rows.Reads.keeps k1 r⟩, datOf_eq al hd r⟩
  cases d0 with
  | tuple xs =>
    cases xs with
    | nil => simp [cmpOk] at c0
    | cons x0 r0 =>
      refine ⟨tuples' (PySem.W.dataType x0 != Value.type "tuple"), fun Q E hq => ?_, fun p q hp hq => ?_⟩
      · have ht : ∀ d, d ∈ PyData.tuple (x0 :: r0) :: ds0 → ∃ x r, d = .tuple (x :: r) := fun d hd => by
          obtain ⟨y, q, e, _⟩ := cmpOk_tup ((all d hd).2.2.2 _ m0)
          exact ⟨y, q, e⟩
        obtain ⟨fs, t1, t2, t3⟩ := PySem.W.each_katTups e' ht
        refine PySem.W.kat_kind (s := { s with heap := h' }) (T := PySem.W.dataType x0) t1 (by omega) (fun f hf => ?_) (beq_self_eq_true _) hq
        obtain ⟨x, r, as, m1, m2⟩ := t3 f hf
        obtain ⟨y, q, e1, e2⟩ := cmpOk_tup ((all _ m1).2.2.2 _ m0)
        cases e1
        rw [← PySem.W.dataType_alike e2]
        exact PySem.W.looks_reads m2
      · obtain ⟨d, hd, ⟨as, r⟩, e1⟩ := rdv _ hp
        obtain ⟨d', hd', ⟨as', r'⟩, e2⟩ := rdv _ hq
        show wpAny _ _ (keyLt' _ p.1 q.1) (fun r s' => s' = _ ∧ r = PySem.W.dataLt (datOf h0 _ p.1) (datOf h0 _ q.1)) _ _
        rw [e1, e2]
        exact cmp_data (s := { s with heap := h' }) r r' ((all d hd).2.2.2 d' hd') (room hd) ((all d hd).2.2.2 _ m0) ((all d' hd').2.2.2 _ m0)
  | int n =>
    have hi : ∀ d ∈ PyData.int n :: ds0, ∃ k, d = .int k := fun d hd => by
      have q := (all d hd).2.2.2 _ m0
      cases d <;> first | exact ⟨_, rfl⟩ | simp [cmpOk] at q
    refine ⟨oneType', fun Q E hq => ?_, fun p q hp hq => ?_⟩
    · refine PySem.W.kas_kind (s := { s with heap := h' }) (T := PySem.W.dataType (.int n)) h2 (fun v hv => ?_) (by rw [show PySem.W.dataType (.int n) = Value.type "int" from rfl]; decide) (beq_self_eq_true _) hq
      obtain ⟨d, hd, ⟨as, r⟩, _⟩ := rdv v hv
      obtain ⟨k, rfl⟩ := hi d hd
      exact PySem.W.looks_reads (d := .int k) r
    · obtain ⟨d, hd, ⟨as, r⟩, e1⟩ := rdv _ hp
      obtain ⟨d', hd', ⟨as', r'⟩, e2⟩ := rdv _ hq
      obtain ⟨k, rfl⟩ := hi d hd
      obtain ⟨k', rfl⟩ := hi d' hd'
      show wpAny _ _ (keyLt' _ p.1 q.1) (fun r s' => s' = _ ∧ r = PySem.W.dataLt (datOf h0 _ p.1) (datOf h0 _ q.1)) _ _
      rw [e1, e2, keyLt'_oneType]
      exact PySem.W.oneLt_alike (s := { s with heap := h' }) (fun _ t => by simp) r r' (by simp [PySem.W.alike]) (by simp) (room hd) ⟨rfl, rfl⟩
  | str n =>
    have hi : ∀ d ∈ PyData.str n :: ds0, ∃ k, d = .str k := fun d hd => by
      have q := (all d hd).2.2.2 _ m0
      cases d <;> first | exact ⟨_, rfl⟩ | simp [cmpOk] at q
    refine ⟨oneType', fun Q E hq => ?_, fun p q hp hq => ?_⟩
    · refine PySem.W.kas_kind (s := { s with heap := h' }) (T := PySem.W.dataType (.str n)) h2 (fun v hv => ?_) (by rw [show PySem.W.dataType (.str n) = Value.type "str" from rfl]; decide) (beq_self_eq_true _) hq
      obtain ⟨d, hd, ⟨as, r⟩, _⟩ := rdv v hv
      obtain ⟨k, rfl⟩ := hi d hd
      exact PySem.W.looks_reads (d := .str k) r
    · obtain ⟨d, hd, ⟨as, r⟩, e1⟩ := rdv _ hp
      obtain ⟨d', hd', ⟨as', r'⟩, e2⟩ := rdv _ hq
      obtain ⟨k, rfl⟩ := hi d hd
      obtain ⟨k', rfl⟩ := hi d' hd'
      show wpAny _ _ (keyLt' _ p.1 q.1) (fun r s' => s' = _ ∧ r = PySem.W.dataLt (datOf h0 _ p.1) (datOf h0 _ q.1)) _ _
      rw [e1, e2, keyLt'_oneType]
      exact PySem.W.oneLt_alike (s := { s with heap := h' }) (fun _ t => by simp) r r' (by simp [PySem.W.alike]) (by simp) (room hd) ⟨rfl, rfl⟩
  | none => simp [cmpOk] at c0
  | bool _ => simp [cmpOk] at c0
  | list _ => simp [cmpOk] at c0
  | dict _ => simp [cmpOk] at c0
theorem stb_short {α : Type} {lt : α → α → Bool} {l m : List α} (h : SrtO.Stb lt l m) (hm : m.length ≤ 1) : l = m := by
  match m, hm with
  | [], _ => exact List.Perm.eq_nil h.perm
  | [x], _ => exact List.perm_singleton.mp h.perm
  | _ :: _ :: _, h => simp at h
theorem isortD_short {ds : List PyData} (h : ds.length ≤ 1) : isortD ds = ds := by
  match ds, h with
  | [], _ => rfl
  | [x], _ => rfl
  | _ :: _ :: _, h => simp at h

theorem back_rv {K : PySem.W.Frag} {G : Hp} {dat : Value → PyData} : ∀ {out : List Value}, (∀ u ∈ out, ∃ x, RelV x u ∧ Rv K G (dat u) x) → ∃ ys, Vals ys out ∧ RvA K G (out.map dat) ys
  | [], _ => ⟨[], .nil, rfl⟩
  | u :: out, h => by
    obtain ⟨x, r, v⟩ := h u List.mem_cons_self
    obtain ⟨ys, rs, vs⟩ := back_rv (out := out) fun z hz => h z (List.mem_cons_of_mem _ hz)
    exact ⟨x :: ys, .cons r rs, x, ys, rfl, v, vs⟩
theorem canLay_all : ∀ {ds : List PyData}, (∀ d ∈ ds, d.canLay0 = true) → PyData.canLayAll0 ds = true
  | [], _ => by simp [PyData.canLayAll0]
  | d :: ds, h => by
    have a := h d List.mem_cons_self
    have b := canLay_all (ds := ds) fun z hz => h z (List.mem_cons_of_mem _ hz)
    simp [PyData.canLayAll0, a, b]
theorem map_each {h : Heap} {dat : Value → PyData} : ∀ {vs : List Value} {ds : List PyData}, PySem.W.EachIs (fun v d => ∃ as, Reads h v d as) vs ds → (∀ v d as, d ∈ ds → Reads h v d as → dat v = d) → vs.map dat = ds
  | _, _, .nil, _ => rfl
  | _, _, .cons (b := d) ⟨as, r⟩ t, q => by
    rw [List.map_cons, q _ _ _ List.mem_cons_self r, map_each t fun v e bs he => q v e bs (List.mem_cons_of_mem _ he)]
theorem vals_rv {K : PySem.W.Frag} {G : Hp} {h : Heap} {dat : Value → PyData} : ∀ {vs : List Value} {xs : List V} {ds : List PyData}, Vals xs vs → RvA K G ds xs → vs.map dat = ds → ∀ u ∈ vs, ∃ x, RelV x u ∧ Rv K G (dat u) x
  | _, _, ds, .nil, _, _, u, hu => absurd hu (by simp)
  | _, _, ds, .cons r rs, hv, e, u, hu => by
    cases ds with
    | nil => simp at e
    | cons d ds =>
      obtain ⟨x', r', e', v1, v2⟩ := hv
      cases e'
      rw [List.map_cons] at e
      obtain ⟨e1, e2⟩ := List.cons.inj e
      rcases List.mem_cons.mp hu with rfl | hu
      · exact ⟨_, r, by rw [e1]; exact v1⟩
      · exact vals_rv (h := h) rs v2 e2 u hu
def rSortedD (K : PySem.W.Frag) : List V → Hp → VK → Prop := fun vs H Q => ∃ (a : Addr) (xs : List V) (ds : List PyData) (G : Hp), vs = [V.ref a] ∧ SqL K H a xs ∧ Same G H ∧ RvA K G ds xs ∧ srtOk ds = true ∧
  ∀ ys p, RvA K G (isortD ds) ys → H p = none → Q (.ref p) (upd H p (.lst ys))
theorem cr_sortedD {X : Cx} (hu : X.A.units + 65 < cLine) : CallR X (.builtin "sorted") (rSortedD X.K) := by
  intro pins s σ H vs us Q I r h
  obtain ⟨a, xs, ds, G, rfl, hs, gh, rv0, ok, q⟩ := h
  obtain ⟨its, rv, hl, hz⟩ := I.list hs
  rw [Vals.ref1 r]
  have lx := rv0.len
  have li : its.length = ds.length := by rw [← rv.length, lx]
  by_cases h2 : 2 ≤ ds.length
  · have all := srtOk_all ok h2
    have al : ∀ d ∈ ds, PySem.W.alike d d = true := fun d hd => (all d hd).1
    obtain ⟨as, ra⟩ := Dp.readsAll I ds xs its (RvA.dp gh ds xs (canLay_all fun d hd => (all d hd).2.1) rv0) rv
    have e := each_of ra
    have md : its.map (datOf s.heap ds) = ds := map_each e fun v d as hd r => datOf_eq al hd r
    refine SrtO.sorted_ord (ltv := fun v u => PySem.W.dataLt (datOf s.heap ds v) (datOf s.heap ds u)) ⟨fun x y => data_swo.asym _ _, fun x y z => data_swo.tr _ _ _⟩ hl.isList (by rw [← rv.length]; exact hz)
      (fun h3 h₁ a' _ kk => sortableD e ok h3 li (by show X.A.units + 1 + 1 + 61 < cLine; omega) kk) fun out h1 h3 => ?_
    have e1 : out.map (datOf s.heap ds) = isortD ds := SrtO.stb_uniq data_swo (SrtO.srtd_map h1) (isortD_srtd ds) (by
      have q := SrtO.Stb.map data_swo (datOf s.heap ds) h3
      rw [md] at q
      have z := isortD_stb ds
      exact q.trans ⟨z.perm.symm, fun x => (z.cls x).symm⟩)
    obtain ⟨ys, ry, vy⟩ := back_rv (K := X.K) (G := G) (dat := datOf s.heap ds) (out := out) fun u hu => vals_rv (h := s.heap) rv rv0 md u (h3.perm.mem_iff.mp hu)
    rw [e1] at vy
    obtain ⟨ep, he'⟩ := PyProof.Rows.sortedAll_at s.heap its out.toArray
    have hlen : ys.length ≤ sizeLine := by
      rw [ry.length, h3.perm.length_eq, ← rv.length]
      exact hz
    exact ⟨.ref _, upd H (s.heap.objs.size + 1) (.lst ys), I.laid (t' := s.toks) (fun _ _ => PyProof.Rows.sortedAll_old) (Nat.le_succ _) ⟨hlen, out, ep, ry, he'⟩, rfl, q _ _ vy (I.hok.fresh (Nat.le_succ _))⟩
  · refine SrtO.sorted_ord (ltv := fun _ _ => false) ⟨fun x y _ => rfl, fun x y z _ _ => rfl⟩ hl.isList (by rw [← rv.length]; exact hz) (fun h3 => absurd h3 (by omega)) fun out h1 h3 => ?_
    have e1 : out = its := stb_short h3 (by omega)
    obtain ⟨ep, he'⟩ := PyProof.Rows.sortedAll_at s.heap its out.toArray
    subst e1
    refine ⟨.ref _, upd H (s.heap.objs.size + 1) (.lst xs), I.laid (t' := s.toks) (fun _ _ => PyProof.Rows.sortedAll_old) (Nat.le_succ _) ⟨hz, out, ep, rv, he'⟩, rfl, q _ _ ?_ (I.hok.fresh (Nat.le_succ _))⟩
    rw [isortD_short (by omega)]
    exact rv0
def fSorted : List PyData → Option Rz
  | [.list ds] => if srtOk ds = true then some (.l (isortD ds)) else none
  | _ => none
theorem oa_sorted {X : Cx} : OpA X (rSortedD X.K) fSorted := by
  intro ds z xs G H Q gh hz h qv ql
  unfold fSorted at hz
  split at hz
  · split at hz
    · rename_i ok
      cases hz
      obtain ⟨x, rfl, a, ys, rfl, h1, h2⟩ := h.one
      exact ⟨a, ys, _, G, rfl, .inl (.inl h1), gh, h2, ok, fun zs p rz hp => ql _ rfl H p zs (.refl _) hp rz⟩
    · cases hz
  · cases hz
theorem dx_sorted {X : Cx} {TG : List TbK} {W : WX} {e : Expr} {ra : M (List Arg)} {pos p2 : Pos} (hu : X.A.units + 65 < cLine) (hg : Gl X "sorted") (hm : X.mg "sorted" = none) (ha : DA X TG W [e] ra) (he : starEach [e] X.env = (false, eval e X.env) :: starEach [] X.env := by rfl) :
    DX X TG W (.Call (.Name "sorted" p2) [e] [] pos) (xFn fSorted ra) := dx_fnB (cr_sortedD hu) oa_sorted hg hm rfl ha (by decide) (by decide) he
end TW

end
section
/-! enumerate over a tuple, over a zip. -/
namespace TW
open PySem PySem.Spec PyProof.Rows L2
section
variable {prog : Program} {w : World} {A : Around} {E : Value → Shared → Prop} {s : Shared}

/-! ### a zip, its tuple out or not -/
abbrev ZipAt (h : Heap) (z TI TO : Addr) (o f : Value) : Prop :=
  h.get? z = some { cls := .type "zip", dict := none, data := .fields #[o, f, .bool false, .ref TI, .ref TO], slots := #[] }
/-- the tuple is free, or its address is known -/
def OwnOk (o f : Value) : Prop := (o = .none ∧ f = .bool false) ∨ ∃ (T : Addr) (b : Bool), o = rawInt T ∧ f = .bool b
theorem alive_none {a : Addr} {Q : Option Obj → Shared → Prop} (ho : s.heap.get? a = none) (h : Q none s) : wpAny (model prog w) A (loadIfAlive a) Q E s := by
  have h' : Q (s.heap.get? a) s := by rw [ho]; exact h
  exact fun _ _ _ => h'
theorem own_free {z TI TO : Addr} {o f : Value} {Q : Bool → Shared → Prop} (hz : ZipAt s.heap z TI TO o f) (ho : OwnOk o f) (h1 : Q true s)
    (h2 : ∀ (h' : Heap) (T : Addr), o = rawInt T → ZipAt h' z TI TO o (.bool true) → Heap.SameBut z s.heap h' → Q false { s with heap := h' }) : wpAny (model prog w) A (Builtin.SmallTypes.ownedTupleIsFree (.ref z)) Q E s := by
  rcases ho with ⟨rfl, rfl⟩ | ⟨T, b, rfl, rfl⟩
  · unfold Builtin.SmallTypes.ownedTupleIsFree
    exact wpAny_bind (wpAny_field hz rfl (x := .none) rfl (wpAny_pure h1))
  · cases hT : s.heap.get? T with
    | some oT => exact wpAny_tupleHeld_zip (f := b) hz hT fun h' a c => h2 h' T rfl a c
    | none =>
      unfold Builtin.SmallTypes.ownedTupleIsFree
      refine wpAny_bind (wpAny_field hz rfl (x := rawInt T) rfl ?_)
      show wpAny _ _ (loadIfAlive ((T : Int).toNat) >>= _) _ _ _
      rw [Int.toNat_natCast]
      refine wpAny_bind (alive_none hT ?_)
      exact wpAny_pure h1

theorem zip_step {z TI TO i1 i2 : Addr} {fp1 fp2 : List Addr} {n1 n2 i : Nat} {P1 P2 : Nat → Value → Prop} {St1 St2 : Nat → Heap → Prop} {a1 a2 ow f : Value} {Q : Value → Shared → Prop} (S : ZipSep2 z TI TO i1 i2 fp1 fp2) (D1 : Draws prog w A i1 fp1 n1 P1 St1) (D2 : Draws prog w A i2 fp2 n2 P2 St2)
    (hz : ZipAt s.heap z TI TO ow f) (ho : OwnOk ow f) (hTI : IsTupOf2 s.heap TI (.ref i1) (.ref i2)) (hTO : IsTupOf2 s.heap TO a1 a2) (st1 : St1 i s.heap) (st2 : St2 i s.heap) (hlt1 : i < n1) (hlt2 : i < n2)
    (hQ : ∀ x1 x2 h' tk, P1 i x1 → P2 i x2 → (∃ ow f, ZipAt h' z TI TO ow f ∧ OwnOk ow f) → (∃ a b, IsTupOf2 h' TO a b) → St1 (i + 1) h' → St2 (i + 1) h' → IsTupOf2 h' s.heap.objs.size x1 x2 → h'.objs.size = s.heap.objs.size + 1 →
      (∀ c o, c ≠ z → c ≠ TO → c ≠ i1 → c ≠ i2 → s.heap.get? c = some o → h'.get? c = some o) → Q (.ref s.heap.objs.size) { s with heap := h', toks := tk }) :
    wpAny (model prog w) A (Builtin.«zip.__next__» ⟨[.ref z], []⟩) (fun fin s' => ∃ v, fin = .done (.ret v) ∧ Q v s') E s := by
  obtain ⟨hp, g, d, tk0, os⟩ := s
  show wpAny _ _ (field (.ref z) 2 >>= _) _ _ _
  refine wpAny_bind (wpAny_field hz rfl (x := .bool false) rfl ?_)
  show wpAny _ _ (field (.ref z) 3 >>= _) _ _ _
  refine wpAny_bind (wpAny_field hz rfl (x := .ref TI) rfl ?_)
  refine wpAny_bind (wpAny_seqItems hTI rfl ?_)
  show wpAny _ _ (Builtin.SmallTypes.ownedTupleIsFree (.ref z) >>= _) _ _ _
  refine wpAny_bind (own_free hz ho ?_ fun h₁ T eT hz₁ hs₁ => ?_)
  · -- the tuple is free
    simp only [if_true]
    refine wpAny_bind (wpAny_rule ?_)
    refine wpAny_bind (wpAny_field hz rfl (x := .ref TO) rfl ?_)
    refine wpAny_bind (wpAny_setField_rec hz (by simp) fun g0 hz0 hs0 => ?_)
    replace hz0 : ZipAt g0 z TI TO .ellipsis f := hz0
    replace hs0 : Heap.SameBut z hp g0 := hs0
    refine wpAny_bind ?_
    simp only [List.zipIdx_cons, List.zipIdx_nil, List.forIn_cons, List.forIn_nil]
    refine wpAny_bind (wpAny_bind (wpAny_onRaise ?_))
    show wpAny _ _ (Builtin.SmallTypes.nextOf (.ref i1) >>= _) _ _ ⟨g0, g, d, tk0, os⟩
    refine wpAny_bind (D1.item i _ _ _ hlt1 (D1.over st1 hs0 S.zf1) fun x1 p1 tk1 hx1 sn1 hp1 => wpAny_pure ?_)
    replace hp1 : Heap.SameBut i1 g0 p1 := hp1
    have hU1 : IsTupOf2 p1 TO a1 a2 := hp1.extBut _ _ S.Ti1 (hs0.extBut _ _ S.TOz hTO)
    refine wpAny_bind (wpAny_seqItems (s := ⟨p1, g, d, tk1, os⟩) hU1 rfl ?_)
    refine wpAny_bind (updateSeq_IsTupOf2 (s := ⟨p1, g, d, tk1, os⟩) hU1 fun g1 hT1 hs1 => ?_)
    replace hT1 : IsTupOf2 g1 TO x1 a2 := hT1
    replace hs1 : Heap.SameBut TO p1 g1 := hs1
    refine wpAny_bind (wpAny_letGo (wpAny_pure ?_))
    refine wpAny_bind (wpAny_bind (wpAny_onRaise ?_))
    show wpAny _ _ (Builtin.SmallTypes.nextOf (.ref i2) >>= _) _ _ ⟨g1, g, d, tk1, os⟩
    refine wpAny_bind (D2.item i _ _ _ hlt2 (D2.over (D2.over (D2.over st2 hs0 S.zf2) hp1 S.sep1_2) hs1 S.Tf2) fun x2 p2 tk2 hx2 sn2 hp2 => wpAny_pure ?_)
    replace hp2 : Heap.SameBut i2 g1 p2 := hp2
    have hU2 : IsTupOf2 p2 TO x1 a2 := hp2.extBut _ _ S.Ti2 hT1
    refine wpAny_bind (wpAny_seqItems (s := ⟨p2, g, d, tk2, os⟩) hU2 rfl ?_)
    refine wpAny_bind (updateSeq_IsTupOf2 (s := ⟨p2, g, d, tk2, os⟩) hU2 fun g2 hT2 hs2 => ?_)
    replace hT2 : IsTupOf2 g2 TO x1 x2 := hT2
    replace hs2 : Heap.SameBut TO p2 g2 := hs2
    refine wpAny_bind (wpAny_letGo (wpAny_pure (wpAny_pure ?_)))
    refine wpAny_bind (wpAny_seqItems (s := ⟨g2, g, d, tk2, os⟩) hT2 rfl ?_)
    refine wpAny_bind (wpAny_newTuple ?_)
    have hsz : g2.objs.size = hp.objs.size := by rw [hs2.1, hp2.1, hs1.1, hp1.1, hs0.1]
    have hzz : ZipAt g2 z TI TO .ellipsis f := (hs2.extBut _ _ S.TOz.symm (hp2.extBut _ _ S.zi2 (hs1.extBut _ _ S.TOz.symm (hp1.extBut _ _ S.zi1 hz0))))
    have hkk : ∀ c o, c ≠ z → c ≠ TO → c ≠ i1 → c ≠ i2 → hp.get? c = some o → g2.get? c = some o := fun c o cz cT c1 c2 e =>
      (hs2.extBut _ _ cT (hp2.extBut _ _ c2 (hs1.extBut _ _ cT (hp1.extBut _ _ c1 (hs0.extBut _ _ cz e)))))
    have hj1 : St1 (i + 1) g2 := (D1.over (D1.over (D1.over sn1 hs1 S.Tf1) hp2 S.sep2_1) hs2 S.Tf1)
    have hj2 : St2 (i + 1) g2 := (D2.over sn2 hs2 S.Tf2)
    have hzlt : z < g2.objs.size := Heap.lt_size hzz
    show wpAny _ _ (Builtin.SmallTypes.ownedTupleHandOut (.ref z) (.ref g2.objs.size) >>= _) _ _ ⟨g2.push { cls := .type "tuple", data := .seq #[x1, x2] }, g, d, tk2, os⟩
    refine wpAny_bind ?_
    unfold Builtin.SmallTypes.ownedTupleHandOut
    have hz₆ : ZipAt (g2.push { cls := .type "tuple", data := .seq #[x1, x2] }) z TI TO .ellipsis f := Heap.get?_push_of_some _ hzz
    refine wpAny_bind (wpAny_setField_rec hz₆ (by simp) fun h₇ hz₇ hs₇ => ?_)
    replace hz₇ : ZipAt h₇ z TI TO (rawInt g2.objs.size) f := hz₇
    refine wpAny_setField_rec hz₇ (by simp) fun h₈ hz₈ hs₈ => ?_
    replace hz₈ : ZipAt h₈ z TI TO (rawInt g2.objs.size) (.bool false) := hz₈
    replace hs₇ : Heap.SameBut z (g2.push { cls := .type "tuple", data := .seq #[x1, x2] }) h₇ := hs₇
    replace hs₈ : Heap.SameBut z h₇ h₈ := hs₈
    have up : ∀ c o, c ≠ z → g2.get? c = some o → h₈.get? c = some o := fun c o c1 e => hs₈.extBut _ _ c1 (hs₇.extBut _ _ c1 (Heap.get?_push_of_some _ e))
    have hT₈ : IsTupOf2 h₈ g2.objs.size x1 x2 := hs₈.extBut _ _ (Nat.ne_of_gt hzlt) (hs₇.extBut _ _ (Nat.ne_of_gt hzlt) (Heap.get?_push_size _ rfl))
    have hz8 : h₈.objs.size = g2.objs.size + 1 := by rw [hs₈.1, hs₇.1, Heap.size_push]
    rw [hsz] at hz₈ hT₈ hz8
    refine wpAny_pure ⟨_, rfl, ?_⟩
    show Q (.ref g2.objs.size) ⟨h₈, g, d, tk2, os⟩
    rw [hsz]
    exact hQ x1 x2 h₈ tk2 hx1 hx2 ⟨_, _, hz₈, .inr ⟨_, _, rfl, rfl⟩⟩ ⟨_, _, up _ _ S.TOz hT2⟩ (D1.frame _ _ _ hj1 fun b hb o e => up b o (fun q => S.zf1 (q ▸ hb)) e) (D2.frame _ _ _ hj2 fun b hb o e => up b o (fun q => S.zf2 (q ▸ hb)) e) hT₈ hz8 fun c o cz cT c1 c2 e => up c o cz (hkk c o cz cT c1 c2 e)
  · -- the tuple is out: a new one
    replace hs₁ : Heap.SameBut z hp h₁ := hs₁
    simp only [Bool.false_eq_true, if_false]
    refine wpAny_bind ?_
    rw [← Array.forIn_toList]
    simp only [List.forIn_cons, List.forIn_nil]
    refine wpAny_bind (wpAny_bind (wpAny_holding ?_))
    show wpAny _ _ (Builtin.SmallTypes.nextOf (.ref i1) >>= _) _ _ ⟨h₁, g, d, tk0, os⟩
    refine wpAny_bind (D1.item i _ _ _ hlt1 (D1.over st1 hs₁ S.zf1) fun x1 p1 tk1 hx1 sn1 hp1 => wpAny_pure ?_)
    replace hp1 : Heap.SameBut i1 h₁ p1 := hp1
    refine wpAny_pure ?_
    refine wpAny_bind (wpAny_bind (wpAny_holding ?_))
    show wpAny _ _ (Builtin.SmallTypes.nextOf (.ref i2) >>= _) _ _ ⟨p1, g, d, tk1, os⟩
    refine wpAny_bind (D2.item i _ _ _ hlt2 (D2.over (D2.over st2 hs₁ S.zf2) hp1 S.sep1_2) fun x2 p2 tk2 hx2 sn2 hp2 => wpAny_pure ?_)
    replace hp2 : Heap.SameBut i2 p1 p2 := hp2
    refine wpAny_pure (wpAny_pure ?_)
    show wpAny _ _ (newTuple [x1, x2] >>= _) _ _ ⟨p2, g, d, tk2, os⟩
    refine wpAny_bind (wpAny_newTuple ?_)
    have hsz : p2.objs.size = hp.objs.size := by rw [hp2.1, hp1.1, hs₁.1]
    have hz2 : ZipAt p2 z TI TO ow (.bool true) := hp2.extBut _ _ S.zi2 (hp1.extBut _ _ S.zi1 hz₁)
    have hk : ∀ c o, c ≠ z → c ≠ i1 → c ≠ i2 → hp.get? c = some o → p2.get? c = some o := fun c o c1 c2 c3 e => hp2.extBut _ _ c3 (hp1.extBut _ _ c2 (hs₁.extBut _ _ c1 e))
    have up : ∀ c o, p2.get? c = some o → (p2.push { cls := .type "tuple", data := .seq #[x1, x2] }).get? c = some o := fun c o e => Heap.get?_push_of_some _ e
    have hq : IsTupOf2 (p2.push { cls := .type "tuple", data := .seq #[x1, x2] }) p2.objs.size x1 x2 := Heap.get?_push_size _ rfl
    have hz4 : (p2.push { cls := .type "tuple", data := .seq #[x1, x2] }).objs.size = p2.objs.size + 1 := Heap.size_push ..
    refine wpAny_pure ⟨_, rfl, ?_⟩
    show Q (.ref p2.objs.size) ⟨_, g, d, tk2, os⟩
    rw [hsz] at hq hz4 ⊢
    have tO : IsTupOf2 p2 TO a1 a2 := hk _ _ S.TOz S.Ti1 S.Ti2 hTO
    exact hQ x1 x2 _ tk2 hx1 hx2 ⟨_, _, up _ _ hz2, .inr ⟨T, true, eT, rfl⟩⟩ ⟨_, _, up _ _ tO⟩ (D1.frame _ _ _ (D1.over sn1 hp2 S.sep2_1) fun b hb o e => up b o e) (D2.frame _ _ _ sn2 fun b hb o e => up b o e) hq hz4 fun c o cz cT c1 c2 e => up c o (hk c o cz c1 c2 e)

theorem zip_end {z TI TO i1 i2 : Addr} {fp1 fp2 : List Addr} {n1 n2 i : Nat} {P1 P2 : Nat → Value → Prop} {St1 St2 : Nat → Heap → Prop} {a1 a2 ow f : Value} {Q : Fin → Shared → Prop} (S : ZipSep2 z TI TO i1 i2 fp1 fp2) (D1 : Draws prog w A i1 fp1 n1 P1 St1) (D2 : Draws prog w A i2 fp2 n2 P2 St2)
    (hz : ZipAt s.heap z TI TO ow f) (ho : OwnOk ow f) (hTI : IsTupOf2 s.heap TI (.ref i1) (.ref i2)) (hTO : IsTupOf2 s.heap TO a1 a2) (st1 : St1 i s.heap) (st2 : St2 i s.heap) (hle1 : i ≤ n1) (hle2 : i ≤ n2) (hend : i = n1 ∨ i = n2)
    (hE : ∀ h' tk e, (∀ c o, c ≠ z → c ≠ TO → c ≠ i1 → c ≠ i2 → s.heap.get? c = some o → h'.get? c = some o) → (∃ o, h'.get? e = some o ∧ o.cls = .type "StopIteration") → E (.ref e) { s with heap := h', toks := tk }) :
    wpAny (model prog w) A (Builtin.«zip.__next__» ⟨[.ref z], []⟩) Q E s := by
  obtain ⟨hp, g, d, tk0, os⟩ := s
  show wpAny _ _ (field (.ref z) 2 >>= _) _ _ _
  refine wpAny_bind (wpAny_field hz rfl (x := .bool false) rfl ?_)
  show wpAny _ _ (field (.ref z) 3 >>= _) _ _ _
  refine wpAny_bind (wpAny_field hz rfl (x := .ref TI) rfl ?_)
  refine wpAny_bind (wpAny_seqItems hTI rfl ?_)
  show wpAny _ _ (Builtin.SmallTypes.ownedTupleIsFree (.ref z) >>= _) _ _ _
  refine wpAny_bind (own_free hz ho ?_ fun h₁ T eT hz₁ hs₁ => ?_)
  · simp only [if_true]
    refine wpAny_bind (wpAny_rule ?_)
    refine wpAny_bind (wpAny_field hz rfl (x := .ref TO) rfl ?_)
    refine wpAny_bind (wpAny_setField_rec hz (by simp) fun g0 hz0 hs0 => ?_)
    replace hz0 : ZipAt g0 z TI TO .ellipsis f := hz0
    replace hs0 : Heap.SameBut z hp g0 := hs0
    refine wpAny_bind ?_
    simp only [List.zipIdx_cons, List.zipIdx_nil, List.forIn_cons, List.forIn_nil]
    refine wpAny_bind (wpAny_bind (wpAny_onRaise ?_))
    show wpAny _ _ (Builtin.SmallTypes.nextOf (.ref i1) >>= _) _ _ ⟨g0, g, d, tk0, os⟩
    by_cases hlt1 : i < n1
    · refine wpAny_bind (D1.item i _ _ _ hlt1 (D1.over st1 hs0 S.zf1) fun x1 p1 tk1 hx1 sn1 hp1 => wpAny_pure ?_)
      replace hp1 : Heap.SameBut i1 g0 p1 := hp1
      have hU1 : IsTupOf2 p1 TO a1 a2 := hp1.extBut _ _ S.Ti1 (hs0.extBut _ _ S.TOz hTO)
      refine wpAny_bind (wpAny_seqItems (s := ⟨p1, g, d, tk1, os⟩) hU1 rfl ?_)
      refine wpAny_bind (updateSeq_IsTupOf2 (s := ⟨p1, g, d, tk1, os⟩) hU1 fun g1 hT1 hs1 => ?_)
      replace hT1 : IsTupOf2 g1 TO x1 a2 := hT1
      replace hs1 : Heap.SameBut TO p1 g1 := hs1
      refine wpAny_bind (wpAny_letGo (wpAny_pure ?_))
      have hi2 : i = n2 := by omega
      refine wpAny_bind (wpAny_bind (wpAny_onRaise ?_))
      show wpAny _ _ (Builtin.SmallTypes.nextOf (.ref i2) >>= _) _ _ ⟨g1, g, d, tk1, os⟩
      refine wpAny_bind (D2.done ⟨g1, g, d, tk1, os⟩ _ _ (by rw [← hi2]; exact (D2.over (D2.over (D2.over st2 hs0 S.zf2) hp1 S.sep1_2) hs1 S.Tf2)) fun q e hq he => ?_)
      replace hq : Heap.ExtBut i2 g1 q := hq
      obtain ⟨oe, hoe, hce⟩ := he
      replace hoe : q.get? e = some oe := hoe
      have hzq : ZipAt q z TI TO .ellipsis f := hq _ _ S.zi2 (hs1.extBut _ _ S.TOz.symm (hp1.extBut _ _ S.zi1 hz0))
      have hez : e ≠ z := fun x => by subst x; rw [hzq] at hoe; cases hoe; simp at hce
      refine wpAny_setField_rec (s := ⟨q, g, d, tk1, os⟩) hzq (by simp) fun q' _ hq' => ?_
      replace hq' : Heap.SameBut z q q' := hq'
      exact hE q' tk1 e (fun c o cz cT c1 c2 x => hq'.extBut _ _ cz (hq _ _ c2 (hs1.extBut _ _ cT (hp1.extBut _ _ c1 (hs0.extBut _ _ cz x))))) ⟨oe, hq'.extBut _ _ hez hoe, hce⟩
    · have hi1 : i = n1 := by omega
      refine wpAny_bind (D1.done ⟨g0, g, d, tk0, os⟩ _ _ (by rw [← hi1]; exact (D1.over st1 hs0 S.zf1)) fun q e hq he => ?_)
      replace hq : Heap.ExtBut i1 g0 q := hq
      obtain ⟨oe, hoe, hce⟩ := he
      replace hoe : q.get? e = some oe := hoe
      have hzq : ZipAt q z TI TO .ellipsis f := hq _ _ S.zi1 hz0
      have hez : e ≠ z := fun x => by subst x; rw [hzq] at hoe; cases hoe; simp at hce
      refine wpAny_setField_rec (s := ⟨q, g, d, tk0, os⟩) hzq (by simp) fun q' _ hq' => ?_
      replace hq' : Heap.SameBut z q q' := hq'
      exact hE q' tk0 e (fun c o cz cT c1 c2 x => hq'.extBut _ _ cz (hq _ _ c1 (hs0.extBut _ _ cz x))) ⟨oe, hq'.extBut _ _ hez hoe, hce⟩
  · replace hs₁ : Heap.SameBut z hp h₁ := hs₁
    simp only [Bool.false_eq_true, if_false]
    refine wpAny_bind ?_
    rw [← Array.forIn_toList]
    simp only [List.forIn_cons, List.forIn_nil]
    refine wpAny_bind (wpAny_bind (wpAny_holding ?_))
    show wpAny _ _ (Builtin.SmallTypes.nextOf (.ref i1) >>= _) _ _ ⟨h₁, g, d, tk0, os⟩
    by_cases hlt1 : i < n1
    · refine wpAny_bind (D1.item i _ _ _ hlt1 (D1.over st1 hs₁ S.zf1) fun x1 p1 tk1 hx1 sn1 hp1 => wpAny_pure ?_)
      replace hp1 : Heap.SameBut i1 h₁ p1 := hp1
      refine wpAny_pure ?_
      have hi2 : i = n2 := by omega
      refine wpAny_bind (wpAny_bind (wpAny_holding ?_))
      show wpAny _ _ (Builtin.SmallTypes.nextOf (.ref i2) >>= _) _ _ ⟨p1, g, d, tk1, os⟩
      refine wpAny_bind (D2.done ⟨p1, g, d, tk1, os⟩ _ _ (by rw [← hi2]; exact (D2.over (D2.over st2 hs₁ S.zf2) hp1 S.sep1_2)) fun q e hq he => ?_)
      replace hq : Heap.ExtBut i2 p1 q := hq
      exact hE q tk1 e (fun c o cz cT c1 c2 x => hq _ _ c2 (hp1.extBut _ _ c1 (hs₁.extBut _ _ cz x))) he
    · have hi1 : i = n1 := by omega
      refine wpAny_bind (D1.done ⟨h₁, g, d, tk0, os⟩ _ _ (by rw [← hi1]; exact (D1.over st1 hs₁ S.zf1)) fun q e hq he => ?_)
      replace hq : Heap.ExtBut i1 h₁ q := hq
      exact hE q tk0 e (fun c o cz cT c1 c2 x => hq _ _ c1 (hs₁.extBut _ _ cz x)) he

/-! ### enumerate over what draws so -/
def Drawn (prog : Program) (w : World) (A : Around) (E : Value → Shared → Prop) (s : Shared) (it : Addr) (ch : List Addr) (R : Value → Heap → Nat → Prop) : Prop :=
  ∀ Q : Value → Shared → Prop, (∀ x h₁ tk, R x h₁ tk → (∀ b o, b ∉ ch → s.heap.get? b = some o → h₁.get? b = some o) → s.heap.objs.size ≤ h₁.objs.size → Q x { s with heap := h₁, toks := tk }) → wpAny (model prog w) A (Builtin.SmallTypes.nextOf (.ref it)) Q E s
theorem enum_step {e it : Addr} {ch : List Addr} {R : Value → Heap → Nat → Prop} {i : Nat} {old : Value} {Q : Value → Shared → Prop} (D : Drawn prog w A E s it ch R) (he : IsEnum s.heap e it i old) (hef : e ∉ ch)
    (hQ : ∀ x h₁ tk h', R x h₁ tk → (∀ b o, b ∉ ch → s.heap.get? b = some o → h₁.get? b = some o) → s.heap.objs.size ≤ h₁.objs.size → (∀ b o, b ≠ e → h₁.get? b = some o → h'.get? b = some o) → IsEnumOut h' e it ((i : Int) + 1) x h₁.objs.size →
      h'.get? h₁.objs.size = some { cls := .type "tuple", data := .seq #[.int i tk, x] } → h'.objs.size = h₁.objs.size + 1 → Q (.ref h₁.objs.size) { s with heap := h', toks := tk + 1 }) :
    wpAny (model prog w) A (Builtin.«enumerate.__next__» ⟨[.ref e], []⟩) (fun fin s' => ∃ v, fin = .done (.ret v) ∧ Q v s') E s := by
  obtain ⟨hp, g, d, tk₀, os⟩ := s
  show wpAny _ _ (field (.ref e) 2 >>= _) _ _ _
  refine wpAny_bind (wpAny_field he rfl (x := .ref it) rfl ?_)
  refine wpAny_bind (D _ fun x h₁ tk hR hk hz => ?_)
  replace hk : ∀ b o, b ∉ ch → hp.get? b = some o → h₁.get? b = some o := hk
  replace hz : hp.objs.size ≤ h₁.objs.size := hz
  have he₁ : IsEnum h₁ e it i old := hk _ _ hef he
  show wpAny _ _ (field (.ref e) 3 >>= _) _ _ ⟨h₁, g, d, tk, os⟩
  refine wpAny_bind (wpAny_field he₁ rfl (x := rawInt i) rfl ?_)
  show wpAny _ _ (field (.ref e) 4 >>= _) _ _ ⟨h₁, g, d, tk, os⟩
  refine wpAny_bind (wpAny_field he₁ rfl (x := .none) rfl ?_)
  show wpAny _ _ (mkInt i >>= _) _ _ ⟨h₁, g, d, tk, os⟩
  refine wpAny_bind (wpAny_mkInt ?_)
  show wpAny _ _ (setField (.ref e) 3 (rawInt ((i : Int) + 1)) >>= _) _ _ ⟨h₁, g, d, tk + 1, os⟩
  refine wpAny_bind (wpAny_setField_rec he₁ (by simp) fun h₂ he₂ hs₂ => ?_)
  replace hs₂ : Heap.SameBut e h₁ h₂ := hs₂
  replace he₂ : IsEnum h₂ e it ((i : Int) + 1) old := he₂
  show wpAny _ _ (setField (.ref e) 4 .none >>= _) _ _ ⟨h₂, g, d, tk + 1, os⟩
  refine wpAny_bind (wpAny_setField_rec he₂ (by simp) fun h₃ he₃ hs₃ => ?_)
  replace hs₃ : Heap.SameBut e h₂ h₃ := hs₃
  replace he₃ : IsEnum h₃ e it ((i : Int) + 1) old := he₃
  show wpAny _ _ (newTuple [.int i tk, x] >>= _) _ _ ⟨h₃, g, d, tk + 1, os⟩
  refine wpAny_bind (wpAny_newTuple ?_)
  have he₄ : IsEnum (h₃.push { cls := .type "tuple", data := .seq #[.int i tk, x] }) e it ((i : Int) + 1) old := Heap.get?_push_of_some _ he₃
  generalize hh₄ : h₃.push { cls := .type "tuple", data := .seq #[.int i tk, x] } = h₄ at he₄
  have hsz : h₃.objs.size = h₁.objs.size := by rw [hs₃.1, hs₂.1]
  have hel : e < h₁.objs.size := Heap.lt_size he₁
  have ht₄ : h₄.get? h₁.objs.size = some { cls := .type "tuple", data := .seq #[.int i tk, x] } := by rw [← hh₄, ← hsz]; exact Heap.get?_push_size _ rfl
  have hz₄ : h₄.objs.size = h₁.objs.size + 1 := by rw [← hh₄, Heap.size_push, hsz]
  have hk₄ : ∀ b o, b ≠ e → h₁.get? b = some o → h₄.get? b = some o := fun b o hbe hb => by
    rw [← hh₄]; exact Heap.get?_push_of_some _ (hs₃.extBut b o hbe (hs₂.extBut b o hbe hb))
  show wpAny _ _ (Builtin.SmallTypes.ownedTupleIsFree (.ref e) >>= _) _ _ ⟨h₄, g, d, tk + 1, os⟩
  rw [hsz]
  clear hh₄ he₃ hs₃ he₂ hs₂ hsz h₃ h₂
  refine wpAny_bind ?_
  · unfold Builtin.SmallTypes.ownedTupleIsFree
    refine wpAny_bind (wpAny_field he₄ rfl (x := .none) rfl (wpAny_pure ?_))
    simp only [if_true]
    refine wpAny_bind (wpAny_rule ?_)
    refine wpAny_bind (wpAny_field he₄ rfl (x := old) rfl ?_)
    refine wpAny_bind (wpAny_setField_rec he₄ (by simp) fun h₅ he₅ hs₅ => ?_)
    replace hs₅ : Heap.SameBut e h₄ h₅ := hs₅
    replace he₅ : IsEnum h₅ e it ((i : Int) + 1) x := he₅
    show wpAny _ _ (Builtin.SmallTypes.ownedTupleHandOut (.ref e) (.ref h₁.objs.size) >>= _) _ _ ⟨h₅, g, d, tk + 1, os⟩
    refine wpAny_bind ?_
    · unfold Builtin.SmallTypes.ownedTupleHandOut
      refine wpAny_bind (wpAny_setField_rec he₅ (by simp) fun h₆ he₆ hs₆ => ?_)
      replace hs₆ : Heap.SameBut e h₅ h₆ := hs₆
      replace he₆ : IsEnumOut h₆ e it ((i : Int) + 1) x h₁.objs.size := he₆
      refine wpAny_setField_rec he₆ (by simp) fun h₇ he₇ hs₇ => ?_
      replace hs₇ : Heap.SameBut e h₆ h₇ := hs₇
      replace he₇ : IsEnumOut h₇ e it ((i : Int) + 1) x h₁.objs.size := he₇
      refine wpAny_bind (wpAny_letGo (wpAny_pure ⟨_, rfl, hQ x h₁ tk h₇ hR hk hz ?_ he₇ ?_ ?_⟩))
      · exact fun b o hbe hb => hs₇.extBut b o hbe (hs₆.extBut b o hbe (hs₅.extBut b o hbe (hk₄ b o hbe hb)))
      · exact hs₇.extBut _ _ (Nat.ne_of_gt hel) (hs₆.extBut _ _ (Nat.ne_of_gt hel) (hs₅.extBut _ _ (Nat.ne_of_gt hel) ht₄))
      · rw [hs₇.1, hs₆.1, hs₅.1, hz₄]
theorem enum_next {e it : Addr} {ch : List Addr} {R : Value → Heap → Nat → Prop} {i : Nat} {old : Value} {Q : Option Value → Shared → Prop} (D : ∀ E, Drawn prog w A.in1 E s it ch R) (he : IsEnum s.heap e it i old) (hef : e ∉ ch)
    (hQ : ∀ x h₁ tk h', R x h₁ tk → (∀ b o, b ∉ ch → s.heap.get? b = some o → h₁.get? b = some o) → s.heap.objs.size ≤ h₁.objs.size → (∀ b o, b ≠ e → h₁.get? b = some o → h'.get? b = some o) → IsEnumOut h' e it ((i : Int) + 1) x h₁.objs.size →
      h'.get? h₁.objs.size = some { cls := .type "tuple", data := .seq #[.int i tk, x] } → h'.objs.size = h₁.objs.size + 1 → Q (some (.ref h₁.objs.size)) { s with heap := h', toks := tk + 1 }) :
    wpAny (model prog w) A (pyNext (.ref e)) Q E s := by
  have hT : s.TypeIs (.ref e) "enumerate" := ⟨_, he, rfl⟩
  unfold pyNext
  exact wpAny_bind (wpAny_attempt (wpAny_callSpecial?_slot (name := Str.ofString "__next__") hT F.slot_enumerate_next
    (wpAny_call_entry F.slot_enumerate_next hT F.entry_enumerate_next
      (enum_step (D _) he hef fun x h₁ tk h' a b c d e' f g => wpAny_pure (hQ x h₁ tk h' a b c d e' f g)) (F.args_enumerate_next_1 _))))
theorem enum_done {e it : Addr} {i : Int} {old : Value} {P0 : Heap → Nat → Prop} {Q : Option Value → Shared → Prop} (he : IsEnum s.heap e it i old)
    (D : ∀ (E : Value → Shared → Prop) (Q : Value → Shared → Prop), (∀ h' tk x, (∃ o, h'.get? x = some o ∧ o.cls = .type "StopIteration") → P0 h' tk → E (.ref x) { s with heap := h', toks := tk }) → wpAny (model prog w) A.in1 (Builtin.SmallTypes.nextOf (.ref it)) Q E s)
    (hQ : ∀ h' tk, P0 h' tk → Q none { s with heap := h', toks := tk }) : wpAny (model prog w) A (pyNext (.ref e)) Q E s := by
  have hT : s.TypeIs (.ref e) "enumerate" := ⟨_, he, rfl⟩
  unfold pyNext
  refine wpAny_bind (wpAny_attempt (wpAny_callSpecial?_slot (name := Str.ofString "__next__") hT F.slot_enumerate_next
    (wpAny_call_entry F.slot_enumerate_next hT F.entry_enumerate_next ?_ (F.args_enumerate_next_1 _))))
  show wpAny _ _ (field (.ref e) 2 >>= _) _ _ _
  refine wpAny_bind (wpAny_field he rfl (x := .ref it) rfl ?_)
  refine wpAny_bind (D _ _ fun h' tk x hx' p0 => ?_)
  obtain ⟨o, ho, hc⟩ := hx'
  refine wpAny_bind (wpAny_isInstance (T := "StopIteration") (b := true) ⟨o, ho, hc⟩ isSubtype_stop ?_)
  exact wpAny_pure (hQ _ _ p0)
end

/-! ### enumerate(v) begins -/
def IterTo (v : Value) (hp : Heap) (it : Addr) (hp' : Heap) : Prop := ∀ (prog : Program) (w : World) (A : Around) (E : Value → Shared → Prop) (s : Shared) (Q : Value → Shared → Prop), s.heap = hp → Q (.ref it) { s with heap := hp' } → wpAny (model prog w) A (pyIter v) Q E s
theorem meets_enum_newG {v : Value} {hp hp' : Heap} {it : Addr} (B : IterTo v hp it hp') : Meets (Builtin.«enumerate.__new__» ⟨[.type "enumerate", v], []⟩) (fun _ R s => s.heap = hp ∧
      R (.ok (.ret (.ref hp'.objs.size))) { s with heap := hp'.push { cls := .type "enumerate", data := .fields #[.none, .bool false, .ref it, rawInt 0, .none, .none] } }) :=
  .of_wp fun prog w A R s h => by
    obtain ⟨hp0, g, d, tk, os⟩ := s
    obtain ⟨h1, h⟩ := h
    replace h1 : hp0 = hp := h1
    subst h1
    have hsub := sub_enumerate
    have q1 : ∀ {A' : Around} {E : Value → Shared → Prop} {Q : Value → Shared → Prop}, Q (.ref it) ⟨hp', g, d, tk, os⟩ → wpAny (model prog w) A' (pyIter v) Q E ⟨hp0, g, d, tk, os⟩ :=
      fun q => B prog w _ _ ⟨hp0, g, d, tk, os⟩ _ rfl q
    wp_walk using q1
    refine wpAny_stack_any fun st => wpAny_pure ?_
    split
    · rename_i c _ _ _ _ _
      cases (c == Value.type "enumerate")
      · wp_walk using q1
        exact ⟨_, rfl, h⟩
      · wp_walk using q1
        exact ⟨_, rfl, h⟩
    · wp_walk using q1
      exact ⟨_, rfl, h⟩
theorem call_enumG {prog : Program} {w : World} {A : Around} {E : Value → Shared → Prop} {s : Shared} {v : Value} {hp' : Heap} {it : Addr} {Q : Value → Shared → Prop} (B : IterTo v s.heap it hp')
    (h : ∀ h', IsEnum h' hp'.objs.size it 0 .none → h'.objs.size = hp'.objs.size + 1 → (∀ b o, hp'.get? b = some o → h'.get? b = some o) → Q (.ref hp'.objs.size) { s with heap := h' }) :
    wpAny (model prog w) A (call (.type "enumerate") [v]) Q E s := by
  refine callType_new F.called_enumerate (by decide) (F.typeCall_enumerate_1 _) (F.newCall_enumerate_1 _) (fun obj => F.args_object_init_2 obj _) F.entry_enumerate_new
    (meets_enum_newG B) ⟨rfl, ?_⟩
  have he : IsEnum (hp'.push { cls := .type "enumerate", data := .fields #[.none, .bool false, .ref it, rawInt 0, .none, .none] }) hp'.objs.size it 0 .none := Heap.get?_push_size _ rfl
  exact ⟨⟨_, he, rfl⟩, h _ he (Heap.size_push ..) fun b o x => Heap.get?_push_of_some _ x⟩
end TW

end
section
namespace TW
open PySem PySem.Spec PyProof.Rows L2
structure Inner (P : Program) (w : World) (K : PySem.W.Frag) (J : It) (fp : List Addr) (it : Addr) (tn : Nat → Heap → Prop) : Prop where
  obj : ∀ i h, tn i h → ∀ b ∈ fp, ∃ o, h.get? b = some o ∧ ∀ v, o.data ≠ .cell v
  keep : ∀ i h h', tn i h → (∀ b ∈ fp, ∀ o, h.get? b = some o → h'.get? b = some o) → tn i h'
  item : ∀ (X : Cx), X.prog = P → X.w = w → X.K = K → X.calm = true → ∀ (i : Nat) (pins : List (Addr × Obj)) (s : Shared) (σ : L2.St) (H : Hp), Inv X pins σ H s → (∀ b ∈ fp, FpOk X pins H b) → tn i s.heap → J.go i H →
    ∀ E, Drawn P w X.A.in1 E s it fp (fun u h₁ tk => ∃ x H', Inv X pins σ H' { s with heap := h₁, toks := tk } ∧ RelV x u ∧ J.yld i H x H' ∧ tn (i + 1) h₁ ∧ ∀ b, b < s.heap.objs.size → H b = none → H' b = none)
  done : ∀ (X : Cx), X.prog = P → X.w = w → X.K = K → X.calm = true → ∀ (i : Nat) (pins : List (Addr × Obj)) (s : Shared) (σ : L2.St) (H : Hp), Inv X pins σ H s → (∀ b ∈ fp, FpOk X pins H b) → tn i s.heap → J.stop i H →
    ∀ (E : Value → Shared → Prop) (Q : Value → Shared → Prop), (∀ h' tk x, (∃ o, h'.get? x = some o ∧ o.cls = .type "StopIteration") → (∀ b o, b ∉ fp → s.heap.get? b = some o → h'.get? b = some o) → E (.ref x) { s with heap := h', toks := tk }) → wpAny (model P w) X.A.in1 (Builtin.SmallTypes.nextOf (.ref it)) Q E s
def ItE (J : It) : It := ⟨J.go, fun i H v H' => ∃ x H1 T, J.yld i H x H1 ∧ v = .ref T ∧ H1 T = none ∧ H' = upd H1 T (.tup [.int (i : Nat), x]), J.stop⟩
theorem turn_enumG {P : Program} {w : World} {K : PySem.W.Frag} {elts : List Expr} {kk : Nat} {tpos : Pos} {J : It} {fp : List Addr} {it e : Addr} {tn : Nat → Heap → Prop} (In : Inner P w K J fp it tn) (hef : e ∉ fp) :
    Turn P w K (.Tuple elts kk tpos) (ItE J) (e :: fp) e (fun i h => (∃ old, IsEnum h e it ((i : Nat) : Int) old) ∧ tn i h) where
  mem := by simp
  obj := fun i h st b hb => by
    obtain ⟨⟨old, he⟩, st⟩ := st
    rcases List.mem_cons.mp hb with z | z
    · rw [z]; exact ⟨_, he, fun v q => nomatch q⟩
    · exact In.obj i h st b z
  keep := fun i h h' st k => let ⟨⟨old, he⟩, st⟩ := st; ⟨⟨old, k e (by simp) _ he⟩, In.keep i h h' st fun b hb o q => k b (List.mem_cons_of_mem _ hb) o q⟩
  item := by
    intro X hP hw hK hc i pins s σ H E I hf st hg
    obtain ⟨⟨old, he⟩, st⟩ := st
    have hel : e < s.heap.objs.size := Heap.lt_size he
    have hit := In.item X hP hw hK hc i pins s σ H I (fun b hb => hf b (List.mem_cons_of_mem _ hb)) st hg
    subst hP hw hK
    refine enum_next hit he hef fun u h₁ tk h' hR hk hz kp ho hT hsz => ?_
    obtain ⟨x, H1, I1, ru, hy, st1, hn⟩ := hR
    refine ⟨_, rfl, wpAny_letOwnedTupleGo_enum (s := { s with heap := h', toks := tk + 1 }) ho fun h'' he' sb => ?_⟩
    have hel1 : e < h₁.objs.size := Nat.lt_of_lt_of_le hel hz
    have hT2 : h''.get? h₁.objs.size = some { cls := .type "tuple", data := .seq #[.int i tk, u] } := (sb.2 _ (Nat.ne_of_gt hel1)).trans hT
    have new : ObjOk X.prog X.w (upd H1 h₁.objs.size (.tup [.int (i : Nat), x])) h'' h₁.objs.size (.tup [.int (i : Nat), x]) :=
      ⟨by show 2 ≤ sizeLine; decide, [.int i tk, u], .cons ⟨_, rfl⟩ (.cons ru .nil), ⟨_, hT2, rfl, _, rfl⟩⟩
    have he1 : H1 e = none := hn e hel (hf e (by simp)).1
    have I2 : Inv X pins σ (upd H1 h₁.objs.size (.tup [.int (i : Nat), x])) { s with heap := h'', toks := tk + 1 } :=
      I1.turnedNew (t' := tk + 1) (ch := [e]) (fun b ob hb q => (sb.2 b (fun z => hb (by simp [z]))).trans (kp b ob (fun z => hb (by simp [z])) q)) (fun b hb => by
        have z : b = e := by simpa using hb
        subst z
        exact ⟨he1, (hf b (by simp)).2⟩) (Nat.le_refl _) new
    have up : ∀ b o, b ≠ e → h₁.get? b = some o → h''.get? b = some o := fun b o hb q => (sb.2 b hb).trans (kp b o hb q)
    refine ⟨.ref h₁.objs.size, _, I2, rfl, ⟨x, H1, h₁.objs.size, hy, rfl, I1.hok.fresh (Nat.le_refl _), rfl⟩, ⟨⟨u, ?_⟩, In.keep _ _ _ st1 fun b hb o q => up b o (fun z => hef (z ▸ hb)) q⟩, fun b hb => ?_⟩
    · have e1 : ((i + 1 : Nat) : Int) = (i : Int) + 1 := by omega
      rw [e1]; exact he'
    · have hb' : b < s.heap.objs.size := by
        rcases List.mem_cons.mp hb with z | z
        · rw [z]; exact hel
        · obtain ⟨o, ho, _⟩ := In.obj i _ st b z
          exact Heap.lt_size ho
      rw [upd_ne (Nat.ne_of_lt (Nat.lt_of_lt_of_le hb' hz))]
      exact hn b hb' (hf b hb).1
  done := by
    intro X hP hw hK hc i pins s σ H E I hf st hg
    obtain ⟨⟨old, he⟩, st⟩ := st
    have hd := In.done X hP hw hK hc i pins s σ H I (fun b hb => hf b (List.mem_cons_of_mem _ hb)) st hg
    subst hP hw hK
    exact enum_done (P0 := fun h' tk => ∀ b o, b ∉ fp → s.heap.get? b = some o → h'.get? b = some o) he (fun E Q k => hd E Q fun h' tk x a b => k h' tk x a b) fun h' tk k => ⟨rfl, I.turnedL (t' := tk) (ch := fp) k fun b hb => hf b (List.mem_cons_of_mem _ hb)⟩
  self := fun A i s Q E st h => let ⟨⟨_, he⟩, _⟩ := st; wpAny_pyIter_enum he h

theorem inner_list {P : Program} {w : World} {K : PySem.W.Frag} (a it : Addr) (hne : a ≠ it) : Inner P w K (Itl K a) [it] it (fun i h => h.IsListIter it a i) where
  obj := fun i h st b hb => by
    have e : b = it := by simpa using hb
    subst e
    obtain ⟨o, e, c, d⟩ := st
    exact ⟨o, e, fun v q => by rw [d] at q; cases q⟩
  keep := fun i h h' st k => st.at fun o e => k it (by simp) o e
  item := by
    intro X hP hw hK hc i pins s σ H I hf st hg E
    subst hP hw hK
    obtain ⟨xs, x, hq, hx⟩ := hg
    obtain ⟨its, rv, p, hz⟩ := I.list hq
    obtain ⟨u, hu, ru⟩ := rv.get hx
    obtain ⟨f0, f1, f2, f3, f4, f5⟩ := hf it (by simp)
    intro Q hQ
    refine wpAny_nextOf_list_item st p.isList (x := u) (by simpa using hu) fun h' st' sb => hQ u h' s.toks ?_ (fun b o hb q => (sb.2 b (by simpa using hb)).trans q) (by rw [sb.1]; exact Nat.le_refl _)
    exact ⟨x, H, I.turned (t' := s.toks) (fun b o hb e => (sb.2 b hb).trans e) f0 f1 f3 f4 f5, ru, ⟨rfl, fun ys hy => by rw [I.list_inj hy hq]; exact hx⟩, st', fun b _ h => h⟩
  done := by
    intro X hP hw hK hc i pins s σ H I hf st hg E Q hE
    subst hP hw hK
    obtain ⟨xs, hq, hx⟩ := hg
    obtain ⟨its, rv, p, hz⟩ := I.list hq
    have hl := rv.length
    exact wpAny_nextOf_list_end (I.ok.hd hc) st p.isList (by simp; omega) fun h' e eb he => hE h' s.toks e he fun b o hb q => eb b o (by simpa using hb) q
theorem inner_tup {P : Program} {w : World} {K : PySem.W.Frag} (a it : Addr) (hne : a ≠ it) : Inner P w K (Itt K a) [it] it (fun i h => h.IsTupleIter it a i) where
  obj := fun i h st b hb => by
    have e : b = it := by simpa using hb
    subst e
    obtain ⟨o, e, c, d⟩ := st
    exact ⟨o, e, fun v q => by rw [d] at q; cases q⟩
  keep := fun i h h' st k => st.at fun o e => k it (by simp) o e
  item := by
    intro X hP hw hK hc i pins s σ H I hf st hg E
    subst hP hw hK
    obtain ⟨xs, x, hq, hx⟩ := hg
    obtain ⟨its, rv, p, hz⟩ := I.tuple hq
    obtain ⟨u, hu, ru⟩ := rv.get hx
    obtain ⟨f0, f1, f2, f3, f4, f5⟩ := hf it (by simp)
    intro Q hQ
    refine wpAny_nextOf_tuple_item st p (x := u) (by simpa using hu) fun h' st' sb => hQ u h' s.toks ?_ (fun b o hb q => (sb.2 b (by simpa using hb)).trans q) (by rw [sb.1]; exact Nat.le_refl _)
    exact ⟨x, H, I.turned (t' := s.toks) (fun b o hb e => (sb.2 b hb).trans e) f0 f1 f3 f4 f5, ru, ⟨rfl, fun ys hy => by rw [I.tuple_inj hy hq]; exact hx⟩, st', fun b _ h => h⟩
  done := by
    intro X hP hw hK hc i pins s σ H I hf st hg E Q hE
    subst hP hw hK
    obtain ⟨xs, hq, hx⟩ := hg
    obtain ⟨its, rv, p, hz⟩ := I.tuple hq
    have hl := rv.length
    exact wpAny_nextOf_tuple_end (I.ok.hd hc) st p (by simp; omega) fun h' e eb he => hE h' s.toks e he fun b o hb q => eb b o (by simpa using hb) q
/-- the same, the end just there where the shorter one ends -/
def ItzS (K : PySem.W.Frag) (a b : Addr) : It := ⟨(Itz K a b).go, (Itz K a b).yld, fun i H => ∃ xs ys : List V, SqL K H a xs ∧ SqL K H b ys ∧ i ≤ xs.length ∧ i ≤ ys.length ∧ (i = xs.length ∨ i = ys.length)⟩
def ItzTS (K : PySem.W.Frag) (a b : Addr) : It := ⟨(RZ.ItzT K a b).go, (RZ.ItzT K a b).yld, fun i H => ∃ xs ys : List V, SqT K H a xs ∧ SqT K H b ys ∧ i ≤ xs.length ∧ i ≤ ys.length ∧ (i = xs.length ∨ i = ys.length)⟩
theorem inner_zipL {P : Program} {w : World} {K : PySem.W.Frag} {a b z TI TO i1 i2 : Addr} (S : ZipSep2 z TI TO i1 i2 [i1, a] [i2, b]) (h1a : a ≠ i1) (h2b : b ≠ i2) : Inner P w K (ItzS K a b) [z, TI, TO, i1, i2] z
    (fun i h => (∃ ow f, ZipAt h z TI TO ow f ∧ OwnOk ow f) ∧ IsTupOf2 h TI (.ref i1) (.ref i2) ∧ (∃ x y, IsTupOf2 h TO x y) ∧ h.IsListIter i1 a i ∧ h.IsListIter i2 b i) where
  obj := fun i h st c hc => by
    obtain ⟨⟨ow, f, hz, _⟩, hTI, ⟨x, y, hTO⟩, ⟨o1, e1, _, d1⟩, ⟨o2, e2, _, d2⟩⟩ := st
    have e' : c = z ∨ c = TI ∨ c = TO ∨ c = i1 ∨ c = i2 := by simpa using hc
    rcases e' with q | q | q | q | q
    · rw [q]; exact ⟨_, hz, fun v q => nomatch q⟩
    · rw [q]; exact ⟨_, hTI, fun v q => nomatch q⟩
    · rw [q]; exact ⟨_, hTO, fun v q => nomatch q⟩
    · rw [q]; exact ⟨o1, e1, fun v q => by rw [d1] at q; cases q⟩
    · rw [q]; exact ⟨o2, e2, fun v q => by rw [d2] at q; cases q⟩
  keep := fun i h h' st k => by
    obtain ⟨⟨ow, f, hz, ho⟩, hTI, ⟨x, y, hTO⟩, h1, h2⟩ := st
    exact ⟨⟨ow, f, k z (by simp) _ hz, ho⟩, k TI (by simp) _ hTI, ⟨x, y, k TO (by simp) _ hTO⟩, h1.at fun o q => k i1 (by simp) o q, h2.at fun o q => k i2 (by simp) o q⟩
  item := by
    intro X hP hw hK hc i pins s σ H I hf st hg E
    subst hP hw hK
    obtain ⟨⟨ow, f, hz, ho⟩, hTI, ⟨x0, y0, hTO⟩, h1, h2⟩ := st
    obtain ⟨xs, ys, x, y, hqx, hqy, hx, hy⟩ := hg
    obtain ⟨its, rv, p, _⟩ := I.list hqx
    obtain ⟨its2, rv2, p2, _⟩ := I.list hqy
    obtain ⟨u, hu, ru⟩ := rv.get hx
    obtain ⟨u2, hu2, ru2⟩ := rv2.get hy
    have lt1 : i < its.toArray.size := by have := (List.getElem?_eq_some_iff.mp hu).1; simpa using this
    have lt2 : i < its2.toArray.size := by have := (List.getElem?_eq_some_iff.mp hu2).1; simpa using this
    have hT : s.TypeIs (.ref z) "zip" := ⟨_, hz, rfl⟩
    intro Q hQ
    unfold Builtin.SmallTypes.nextOf
    refine wpAny_bind (wpAny_callSpecial?_slot (name := Str.ofString "__next__") hT F.slot_zip_next (wpAny_call_entry F.slot_zip_next hT F.entry_zip_next ?_ (F.args_zip_next_1 _)))
    refine zip_step S (Draws.list (A := X.A.in1.in1) (I.ok.hd hc) i1 a h1a its.toArray) (Draws.list (A := X.A.in1.in1) (I.ok.hd hc) i2 b h2b its2.toArray) hz ho hTI hTO ⟨h1, p.isList⟩ ⟨h2, p2.isList⟩ lt1 lt2 fun v1 v2 h' tk q1 q2 hz' hTO' s1 s2 hT' hsz hk => ?_
    refine wpAny_pure (hQ _ h' tk ?_ (fun c o hcn q => hk c o (fun q' => hcn (by simp [q'])) (fun q' => hcn (by simp [q'])) (fun q' => hcn (by simp [q'])) (fun q' => hcn (by simp [q'])) q) (by rw [hsz]; exact Nat.le_succ _))
    have ev1 : v1 = u := by
      have q1 : its.toArray[i]? = some v1 := q1
      simp [hu] at q1; exact q1.symm
    have ev2 : v2 = u2 := by
      have q2 : its2.toArray[i]? = some v2 := q2
      simp [hu2] at q2; exact q2.symm
    subst ev1 ev2
    have new : ObjOk X.prog X.w (upd H s.heap.objs.size (.tup [x, y])) h' s.heap.objs.size (.tup [x, y]) :=
      ⟨by show 2 ≤ sizeLine; decide, [v1, v2], .cons ru (.cons ru2 .nil), ⟨_, hT', rfl, _, rfl⟩⟩
    have I1 : Inv X pins σ (upd H s.heap.objs.size (.tup [x, y])) { s with heap := h', toks := tk } :=
      I.turnedNew (t' := tk) (ch := [z, TI, TO, i1, i2]) (fun c o hb q => hk c o (fun q' => hb (by simp [q'])) (fun q' => hb (by simp [q'])) (fun q' => hb (by simp [q'])) (fun q' => hb (by simp [q'])) q) hf (Nat.le_refl _) new
    refine ⟨.ref s.heap.objs.size, _, I1, rfl, ⟨_, x, y, rfl, I.hok.fresh (Nat.le_refl _), rfl, fun l hl => by rw [I.list_inj hl hqx]; exact hx, fun l hl => by rw [I.list_inj hl hqy]; exact hy⟩, ⟨hz', hk _ _ S.TIz S.TITO S.TIi1 S.TIi2 hTI, hTO', s1.1, s2.1⟩, fun c hlt hn => ?_⟩
    rw [upd_ne (Nat.ne_of_lt hlt)]
    exact hn
  done := by
    intro X hP hw hK hc i pins s σ H I hf st hg E Q hE
    subst hP hw hK
    obtain ⟨⟨ow, f, hz, ho⟩, hTI, ⟨x0, y0, hTO⟩, h1, h2⟩ := st
    obtain ⟨xs, ys, hqx, hqy, he1, he2, hend⟩ := hg
    obtain ⟨its, rv, p, _⟩ := I.list hqx
    obtain ⟨its2, rv2, p2, _⟩ := I.list hqy
    have l1 := rv.length
    have l2 := rv2.length
    have hT : s.TypeIs (.ref z) "zip" := ⟨_, hz, rfl⟩
    unfold Builtin.SmallTypes.nextOf
    refine wpAny_bind (wpAny_callSpecial?_slot (name := Str.ofString "__next__") hT F.slot_zip_next (wpAny_call_entry F.slot_zip_next hT F.entry_zip_next ?_ (F.args_zip_next_1 _)))
    exact zip_end S (Draws.list (A := X.A.in1.in1) (I.ok.hd hc) i1 a h1a its.toArray) (Draws.list (A := X.A.in1.in1) (I.ok.hd hc) i2 b h2b its2.toArray) hz ho hTI hTO ⟨h1, p.isList⟩ ⟨h2, p2.isList⟩ (by simp; omega) (by simp; omega) (by simp; omega) fun h' tk e hk he => hE h' tk e he fun c o hcn q => hk c o (fun q' => hcn (by simp [q'])) (fun q' => hcn (by simp [q'])) (fun q' => hcn (by simp [q'])) (fun q' => hcn (by simp [q'])) q
theorem inner_zipT {P : Program} {w : World} {K : PySem.W.Frag} {a b z TI TO i1 i2 : Addr} (S : ZipSep2 z TI TO i1 i2 [i1, a] [i2, b]) (h1a : a ≠ i1) (h2b : b ≠ i2) : Inner P w K (ItzTS K a b) [z, TI, TO, i1, i2] z
    (fun i h => (∃ ow f, ZipAt h z TI TO ow f ∧ OwnOk ow f) ∧ IsTupOf2 h TI (.ref i1) (.ref i2) ∧ (∃ x y, IsTupOf2 h TO x y) ∧ h.IsTupleIter i1 a i ∧ h.IsTupleIter i2 b i) where
  obj := fun i h st c hc => by
    obtain ⟨⟨ow, f, hz, _⟩, hTI, ⟨x, y, hTO⟩, ⟨o1, e1, _, d1⟩, ⟨o2, e2, _, d2⟩⟩ := st
    have e' : c = z ∨ c = TI ∨ c = TO ∨ c = i1 ∨ c = i2 := by simpa using hc
    rcases e' with q | q | q | q | q
    · rw [q]; exact ⟨_, hz, fun v q => nomatch q⟩
    · rw [q]; exact ⟨_, hTI, fun v q => nomatch q⟩
    · rw [q]; exact ⟨_, hTO, fun v q => nomatch q⟩
    · rw [q]; exact ⟨o1, e1, fun v q => by rw [d1] at q; cases q⟩
    · rw [q]; exact ⟨o2, e2, fun v q => by rw [d2] at q; cases q⟩
  keep := fun i h h' st k => by
    obtain ⟨⟨ow, f, hz, ho⟩, hTI, ⟨x, y, hTO⟩, h1, h2⟩ := st
    exact ⟨⟨ow, f, k z (by simp) _ hz, ho⟩, k TI (by simp) _ hTI, ⟨x, y, k TO (by simp) _ hTO⟩, h1.at fun o q => k i1 (by simp) o q, h2.at fun o q => k i2 (by simp) o q⟩
  item := by
    intro X hP hw hK hc i pins s σ H I hf st hg E
    subst hP hw hK
    obtain ⟨⟨ow, f, hz, ho⟩, hTI, ⟨x0, y0, hTO⟩, h1, h2⟩ := st
    obtain ⟨xs, ys, x, y, hqx, hqy, hx, hy⟩ := hg
    obtain ⟨its, rv, p, _⟩ := I.tuple hqx
    obtain ⟨its2, rv2, p2, _⟩ := I.tuple hqy
    obtain ⟨u, hu, ru⟩ := rv.get hx
    obtain ⟨u2, hu2, ru2⟩ := rv2.get hy
    have lt1 : i < its.toArray.size := by have := (List.getElem?_eq_some_iff.mp hu).1; simpa using this
    have lt2 : i < its2.toArray.size := by have := (List.getElem?_eq_some_iff.mp hu2).1; simpa using this
    have hT : s.TypeIs (.ref z) "zip" := ⟨_, hz, rfl⟩
    intro Q hQ
    unfold Builtin.SmallTypes.nextOf
    refine wpAny_bind (wpAny_callSpecial?_slot (name := Str.ofString "__next__") hT F.slot_zip_next (wpAny_call_entry F.slot_zip_next hT F.entry_zip_next ?_ (F.args_zip_next_1 _)))
    refine zip_step S (Draws.tuple (A := X.A.in1.in1) (I.ok.hd hc) i1 a h1a its.toArray) (Draws.tuple (A := X.A.in1.in1) (I.ok.hd hc) i2 b h2b its2.toArray) hz ho hTI hTO ⟨h1, p⟩ ⟨h2, p2⟩ lt1 lt2 fun v1 v2 h' tk q1 q2 hz' hTO' s1 s2 hT' hsz hk => ?_
    refine wpAny_pure (hQ _ h' tk ?_ (fun c o hcn q => hk c o (fun q' => hcn (by simp [q'])) (fun q' => hcn (by simp [q'])) (fun q' => hcn (by simp [q'])) (fun q' => hcn (by simp [q'])) q) (by rw [hsz]; exact Nat.le_succ _))
    have ev1 : v1 = u := by
      have q1 : its.toArray[i]? = some v1 := q1
      simp [hu] at q1; exact q1.symm
    have ev2 : v2 = u2 := by
      have q2 : its2.toArray[i]? = some v2 := q2
      simp [hu2] at q2; exact q2.symm
    subst ev1 ev2
    have new : ObjOk X.prog X.w (upd H s.heap.objs.size (.tup [x, y])) h' s.heap.objs.size (.tup [x, y]) :=
      ⟨by show 2 ≤ sizeLine; decide, [v1, v2], .cons ru (.cons ru2 .nil), ⟨_, hT', rfl, _, rfl⟩⟩
    have I1 : Inv X pins σ (upd H s.heap.objs.size (.tup [x, y])) { s with heap := h', toks := tk } :=
      I.turnedNew (t' := tk) (ch := [z, TI, TO, i1, i2]) (fun c o hb q => hk c o (fun q' => hb (by simp [q'])) (fun q' => hb (by simp [q'])) (fun q' => hb (by simp [q'])) (fun q' => hb (by simp [q'])) q) hf (Nat.le_refl _) new
    refine ⟨.ref s.heap.objs.size, _, I1, rfl, ⟨_, x, y, rfl, I.hok.fresh (Nat.le_refl _), rfl, fun l hl => by rw [I.tuple_inj hl hqx]; exact hx, fun l hl => by rw [I.tuple_inj hl hqy]; exact hy⟩, ⟨hz', hk _ _ S.TIz S.TITO S.TIi1 S.TIi2 hTI, hTO', s1.1, s2.1⟩, fun c hlt hn => ?_⟩
    rw [upd_ne (Nat.ne_of_lt hlt)]
    exact hn
  done := by
    intro X hP hw hK hc i pins s σ H I hf st hg E Q hE
    subst hP hw hK
    obtain ⟨⟨ow, f, hz, ho⟩, hTI, ⟨x0, y0, hTO⟩, h1, h2⟩ := st
    obtain ⟨xs, ys, hqx, hqy, he1, he2, hend⟩ := hg
    obtain ⟨its, rv, p, _⟩ := I.tuple hqx
    obtain ⟨its2, rv2, p2, _⟩ := I.tuple hqy
    have l1 := rv.length
    have l2 := rv2.length
    have hT : s.TypeIs (.ref z) "zip" := ⟨_, hz, rfl⟩
    unfold Builtin.SmallTypes.nextOf
    refine wpAny_bind (wpAny_callSpecial?_slot (name := Str.ofString "__next__") hT F.slot_zip_next (wpAny_call_entry F.slot_zip_next hT F.entry_zip_next ?_ (F.args_zip_next_1 _)))
    exact zip_end S (Draws.tuple (A := X.A.in1.in1) (I.ok.hd hc) i1 a h1a its.toArray) (Draws.tuple (A := X.A.in1.in1) (I.ok.hd hc) i2 b h2b its2.toArray) hz ho hTI hTO ⟨h1, p⟩ ⟨h2, p2⟩ (by simp; omega) (by simp; omega) (by simp; omega) fun h' tk e hk he => hE h' tk e he fun c o hcn q => hk c o (fun q' => hcn (by simp [q'])) (fun q' => hcn (by simp [q'])) (fun q' => hcn (by simp [q'])) (fun q' => hcn (by simp [q'])) q
end TW

end
section
namespace TW
open PySem PySem.Spec PyProof.Rows L2
def iEnumA (K : PySem.W.Frag) (ta : TA) : TI := fun σ H R => ta σ H fun vs H1 => ∃ (a : Addr) (xs : List V), vs = [.ref a] ∧ ((SqL K H1 a xs ∧ R (ItE (Itl K a)) H1) ∨ (SqT K H1 a xs ∧ R (ItE (Itt K a)) H1))
section
variable {X : Cx}
theorem fresh_fp {pins : List (Addr × Obj)} {σ : L2.St} {H : Hp} {s : Shared} (I : Inv X pins σ H s) {b : Addr} (h : s.heap.objs.size ≤ b) : FpOk X pins H b := I.fpOk h (I.hok.fresh h)
theorem pi_enumA {e : Expr} {ta : TA} {p pos tpos : Pos} {elts : List Expr} {kk : Nat} (hg : Gl X "enumerate") (hm : X.mg "enumerate" = none) (ha : PA X [e] ta) (hs : starEach [e] X.env = [(false, eval e X.env)] := by rfl) :
    PI X (.Tuple elts kk tpos) (.Call (.Name "enumerate" p) [e] [] pos) (iEnumA X.K ta) := by
  refine ⟨fun pins s σ H R I h => ?_⟩
  refine Call_ (ld_blt I hg hm boot_enumerate (PyProof.Rows.callWith_type1 (thn (ha.run pos pins s σ H _ I h) fun us s1 ⟨vs, H1, I1, r1, q1⟩ => ?_) hs rfl))
  obtain ⟨a, xs, ex, q⟩ := q1
  subst ex
  cases r1 with
  | cons r rr =>
    cases rr
    cases r
    rcases q with ⟨hq, q⟩ | ⟨hq, q⟩
    · obtain ⟨its, rv, p', hz⟩ := I1.list hq
      have hl : s1.heap.IsList a its.toArray := p'.isList
      have la : a < s1.heap.objs.size := by obtain ⟨_, e, _⟩ := hl; exact Heap.lt_size e
      have sz : (s1.heap.push { cls := .type "list_iterator", data := .fields #[.ref a, .int 0 0] }).objs.size = s1.heap.objs.size + 1 := Heap.size_push ..
      refine call_enumG (it := s1.heap.objs.size) (hp' := s1.heap.push { cls := .type "list_iterator", data := .fields #[.ref a, .int 0 0] }) (fun P w A E s2 Q e q => ?_) fun h' he hz' hk => wpAny_pyIter_enum he ?_
      · have q' : Q (.ref s2.heap.objs.size) { s2 with heap := s2.heap.push { cls := .type "list_iterator", data := .fields #[.ref a, .int 0 0] } } := by rw [e]; exact q
        exact wpAny_pyIter_list (by rw [e]; exact hl) q'
      rw [sz] at he ⊢
      have I2 : Inv X pins σ H1 { s1 with heap := h' } := I1.kept (t' := s1.toks) fun b o x => hk b o (Heap.get?_push_of_some _ x)
      refine ⟨s1.heap.objs.size + 1, [s1.heap.objs.size + 1, s1.heap.objs.size], _, _, H1, rfl, I2, turn_enumG (inner_list a s1.heap.objs.size (Nat.ne_of_lt la)) (by simp), ⟨⟨.none, he⟩, ⟨_, hk _ _ (Heap.get?_push_size _ rfl), rfl, rfl⟩⟩, fun b hb => ?_, q⟩
      have e' : b = s1.heap.objs.size + 1 ∨ b = s1.heap.objs.size := by simpa using hb
      exact fresh_fp I1 (by rcases e' with z | z <;> rw [z] <;> first | exact Nat.le_add_right _ _ | exact Nat.le_refl _)
    · obtain ⟨its, rv, p', hz⟩ := I1.tuple hq
      have hl : s1.heap.IsTuple a its.toArray := p'
      have la : a < s1.heap.objs.size := by obtain ⟨_, e, _⟩ := hl; exact Heap.lt_size e
      have sz : (s1.heap.push { cls := .type "tuple_iterator", data := .fields #[.ref a, .int 0 0] }).objs.size = s1.heap.objs.size + 1 := Heap.size_push ..
      refine call_enumG (it := s1.heap.objs.size) (hp' := s1.heap.push { cls := .type "tuple_iterator", data := .fields #[.ref a, .int 0 0] }) (fun P w A E s2 Q e q => ?_) fun h' he hz' hk => wpAny_pyIter_enum he ?_
      · have q' : Q (.ref s2.heap.objs.size) { s2 with heap := s2.heap.push { cls := .type "tuple_iterator", data := .fields #[.ref a, .int 0 0] } } := by rw [e]; exact q
        exact wpAny_pyIter_tuple (by rw [e]; exact hl) q'
      rw [sz] at he ⊢
      have I2 : Inv X pins σ H1 { s1 with heap := h' } := I1.kept (t' := s1.toks) fun b o x => hk b o (Heap.get?_push_of_some _ x)
      refine ⟨s1.heap.objs.size + 1, [s1.heap.objs.size + 1, s1.heap.objs.size], _, _, H1, rfl, I2, turn_enumG (inner_tup a s1.heap.objs.size (Nat.ne_of_lt la)) (by simp), ⟨⟨.none, he⟩, ⟨_, hk _ _ (Heap.get?_push_size _ rfl), rfl, rfl⟩⟩, fun b hb => ?_, q⟩
      have e' : b = s1.heap.objs.size + 1 ∨ b = s1.heap.objs.size := by simpa using hb
      exact fresh_fp I1 (by rcases e' with z | z <;> rw [z] <;> first | exact Nat.le_add_right _ _ | exact Nat.le_refl _)
def iEnumZ (K : PySem.W.Frag) (ta : TA) : TI := fun σ H R => ta σ H fun vs H1 => ∃ (a b : Addr) (xs ys : List V), vs = [.ref a, .ref b] ∧ ((SqL K H1 a xs ∧ SqL K H1 b ys ∧ R (ItE (ItzS K a b)) H1) ∨ (SqT K H1 a xs ∧ SqT K H1 b ys ∧ R (ItE (ItzTS K a b)) H1))
theorem zip_iterTo {z TI TO : Addr} {f0 : Value} {hp : Heap} (hz : IsZip hp z TI TO f0) : IterTo (.ref z) hp z hp := fun P w A E s2 Q e q => by
  subst e
  exact wpAny_pyIter_zip hz q
theorem pi_enumZ {e e2 : Expr} {ta : TA} {p p3 pos pos2 tpos : Pos} {elts : List Expr} {kk : Nat} (hg : Gl X "enumerate") (hm : X.mg "enumerate" = none) (hg2 : Gl X "zip") (hm2 : X.mg "zip" = none) (ha : PA X [e, e2] ta)
    (hs1 : starEach [.Call (.Name "zip" p3) [e, e2] [] pos2] X.env = (false, eval (.Call (.Name "zip" p3) [e, e2] [] pos2) X.env) :: starEach [] X.env := by rfl)
    (hs : starEach [e, e2] X.env = (false, eval e X.env) :: starEach [e2] X.env := by rfl) (hpl : (backTo pos2 (starEach [e2] X.env)).any (·.1) = false := by rfl) :
    PI X (.Tuple elts kk tpos) (.Call (.Name "enumerate" p) [.Call (.Name "zip" p3) [e, e2] [] pos2] [] pos) (iEnumZ X.K ta) := by
  refine ⟨fun pins s σ H R I h => ?_⟩
  refine Call_ (ld_blt I hg hm boot_enumerate (PyProof.Rows.callWith_type1 ?_ hs1 rfl))
  rw [hs1]
  show wpAny _ _ (spliced ((false, eval (.Call (.Name "zip" p3) [e, e2] [] pos2) X.env) :: backTo pos (starEach [] X.env))) _ _ s
  refine Calls.spliced_cons ?_
  refine Call_ (ld_blt I hg2 hm2 PyProof.Rows.boot_zip (PyProof.Rows.callWith_type1 (thn (ha.run pos2 pins s σ H _ I h) fun us s1 ⟨vs, H1, I1, r1, q1⟩ => ?_) hs hpl))
  obtain ⟨a, b, xs, ys, ex, q1⟩ := q1
  subst ex
  cases r1 with
  | cons r rr =>
    cases rr with
    | cons r' rr =>
      cases rr
      cases r
      cases r'
      have fresh6 : ∀ c, c ∈ [s1.heap.objs.size + 5, s1.heap.objs.size + 4, s1.heap.objs.size + 2, s1.heap.objs.size + 3, s1.heap.objs.size, s1.heap.objs.size + 1] → FpOk X pins H1 c := fun c hcm => by
        have e' : c = s1.heap.objs.size + 5 ∨ c = s1.heap.objs.size + 4 ∨ c = s1.heap.objs.size + 2 ∨ c = s1.heap.objs.size + 3 ∨ c = s1.heap.objs.size ∨ c = s1.heap.objs.size + 1 := by simpa using hcm
        exact fresh_fp I1 (by rcases e' with z | z | z | z | z | z <;> rw [z] <;> first | exact Nat.le_add_right _ _ | exact Nat.le_refl _)
      rcases q1 with ⟨hqx, hqy, q⟩ | ⟨hqx, hqy, q⟩
      · obtain ⟨its, rv, p1, _⟩ := I1.list hqx
        obtain ⟨its2, rv2, p2, _⟩ := I1.list hqy
        refine call_zip_2 p1.isList p2.isList fun h' hz hTI hTO h1 h2 hsz hk => ?_
        refine Calls.spliced_nil ?_
        have I2 : Inv X pins σ H1 { s1 with heap := h' } := I1.kept (t' := s1.toks) hk
        refine call_enumG (s := { s1 with heap := h' }) (zip_iterTo hz) fun h'' he hz2 hk2 => wpAny_pyIter_enum he ?_
        have hsz : h'.objs.size = s1.heap.objs.size + 5 := hsz
        replace hk2 : ∀ b o, h'.get? b = some o → h''.get? b = some o := hk2
        rw [hsz] at he ⊢
        have I3 : Inv X pins σ H1 { s1 with heap := h'' } := I2.kept (t' := s1.toks) hk2
        exact ⟨s1.heap.objs.size + 5, _, _, _, H1, rfl, I3, turn_enumG (inner_zipL (z := s1.heap.objs.size + 4) (TI := s1.heap.objs.size + 2) (TO := s1.heap.objs.size + 3) (i1 := s1.heap.objs.size) (i2 := s1.heap.objs.size + 1) (zip_sep2 (fun c hc => by rw [List.mem_singleton.mp hc]; exact p1.lt) (fun c hc => by rw [List.mem_singleton.mp hc]; exact p2.lt)) (Nat.ne_of_lt p1.lt) (Nat.ne_of_lt (Nat.lt_succ_of_lt p2.lt))) (by simp),
          ⟨⟨.none, he⟩, ⟨.none, .bool false, hk2 _ _ hz, .inl ⟨rfl, rfl⟩⟩, hk2 _ _ hTI, ⟨_, _, hk2 _ _ hTO⟩, h1.at fun o e => hk2 _ o e, h2.at fun o e => hk2 _ o e⟩, fresh6, q⟩
      · obtain ⟨its, rv, p1, _⟩ := I1.tuple hqx
        obtain ⟨its2, rv2, p2, _⟩ := I1.tuple hqy
        have lt1 : a < s1.heap.objs.size := by obtain ⟨o, ho, _⟩ := id p1; exact Heap.lt_size ho
        have lt2 : b < s1.heap.objs.size := by obtain ⟨o, ho, _⟩ := id p2; exact Heap.lt_size ho
        refine RZ.call_zipT (show s1.heap.IsTuple a its.toArray from p1) (show s1.heap.IsTuple b its2.toArray from p2) fun h' hz hTI hTO h1 h2 hsz hk => ?_
        refine Calls.spliced_nil ?_
        have I2 : Inv X pins σ H1 { s1 with heap := h' } := I1.kept (t' := s1.toks) hk
        refine call_enumG (s := { s1 with heap := h' }) (zip_iterTo hz) fun h'' he hz2 hk2 => wpAny_pyIter_enum he ?_
        have hsz : h'.objs.size = s1.heap.objs.size + 5 := hsz
        replace hk2 : ∀ b o, h'.get? b = some o → h''.get? b = some o := hk2
        rw [hsz] at he ⊢
        have I3 : Inv X pins σ H1 { s1 with heap := h'' } := I2.kept (t' := s1.toks) hk2
        exact ⟨s1.heap.objs.size + 5, _, _, _, H1, rfl, I3, turn_enumG (inner_zipT (z := s1.heap.objs.size + 4) (TI := s1.heap.objs.size + 2) (TO := s1.heap.objs.size + 3) (i1 := s1.heap.objs.size) (i2 := s1.heap.objs.size + 1) (zip_sep2 (fun c hc => by rw [List.mem_singleton.mp hc]; exact lt1) (fun c hc => by rw [List.mem_singleton.mp hc]; exact lt2)) (Nat.ne_of_lt lt1) (Nat.ne_of_lt (Nat.lt_succ_of_lt lt2))) (by simp),
          ⟨⟨.none, he⟩, ⟨.none, .bool false, hk2 _ _ hz, .inl ⟨rfl, rfl⟩⟩, hk2 _ _ hTI, ⟨_, _, hk2 _ _ hTO⟩, h1.at fun o e => hk2 _ o e, h2.at fun o e => hk2 _ o e⟩, fresh6, q⟩
end

/-! ### what is walked, as data -/
theorem it_enumG {K : PySem.W.Frag} {G : Hp} {ds : List PyData} {J : It} (ok : ItOk K G ds J) : ItOk K G (enumD ds) (ItE J) where
  go := fun i H e hi => ok.go i H e (by simpa [enumD] using hi)
  stop := fun H e => by
    have q := ok.stop H e
    have l : (enumD ds).length = ds.length := by simp [enumD]
    rw [l]
    exact q
  yld := fun i H v H' G1 e1 e2 hi y => by
    have hi : i < ds.length := by simpa [enumD] using hi
    obtain ⟨x, H1, T, y, rfl, hT, rfl⟩ := y
    obtain ⟨d, G2, hd, gr, rv⟩ := ok.yld i H x H1 G1 e1 e2 hi y
    obtain ⟨g, rv2⟩ := pair_yld gr.gh hT (show Rv K G2 (.int (i : Nat)) (.int (i : Nat)) from rfl) rv
    exact ⟨.tuple [.int (i : Nat), d], _, by simp [enumD, hd], gr.trans g, rv2⟩
theorem it_zipS {K : PySem.W.Frag} {G : Hp} {a b : Addr} {xs ys : List V} {ds es : List PyData} (h : G a = some (HO.lst xs)) (h' : G b = some (HO.lst ys)) (v : RvA K G ds xs) (w : RvA K G es ys) : ItOk K G ((ds.zip es).map fun p => .tuple [p.1, p.2]) (ItzS K a b) where
  go := (it_zip h h' v w).go
  stop := fun H e => ⟨xs, ys, same_l e h, same_l e h', by rw [v.len]; simp; omega, by rw [w.len]; simp; omega, by rw [v.len, w.len]; simp; omega⟩
  yld := (it_zip h h' v w).yld
theorem it_zipTS {K : PySem.W.Frag} {G : Hp} {a b : Addr} {xs ys : List V} {ds es : List PyData} (h : SqT K G a xs) (h' : SqT K G b ys) (v : RvA K G ds xs) (w : RvA K G es ys) : ItOk K G ((ds.zip es).map fun p => .tuple [p.1, p.2]) (ItzTS K a b) where
  go := (it_zipT h h' v w).go
  stop := fun H e => ⟨xs, ys, same_t e h, same_t e h', by rw [v.len]; simp; omega, by rw [w.len]; simp; omega, by rw [v.len, w.len]; simp; omega⟩
  yld := (it_zipT h h' v w).yld
def iEnum : List PyData → M (List PyData)
  | [.list xs] => .ret (enumD xs)
  | [.tuple xs] => .ret (enumD xs)
  | _ => .st
def iEnZip : List PyData → M (List PyData)
  | [.list xs, .list ys] => .ret (enumD ((xs.zip ys).map fun p => .tuple [p.1, p.2]))
  | [.tuple xs, .tuple ys] => .ret (enumD ((xs.zip ys).map fun p => .tuple [p.1, p.2]))
  | _ => .st
section
variable {X : Cx} {TG : List TbK} {W : WX} {e e2 : Expr} {r : M (List Arg)} {p p3 pos pos2 tpos : Pos} {elts : List Expr} {kk : Nat}
theorem di_enum (hg : Gl X "enumerate") (hm : X.mg "enumerate" = none) (ha : DA X TG W [e] r) (hs : starEach [e] X.env = [(false, eval e X.env)] := by rfl) :
    DI X TG W (.Tuple elts kk tpos) (.Call (.Name "enumerate" p) [e] [] pos) (aBind r iEnum) := PI_imp (pi_enumA hg hm ha hs) fun s H R q => by
  obtain ⟨B, F, G0, G, z, i, p⟩ := rdI_args q
  refine ⟨B, F, G0, G, z, i, post_imp (fun xs H1 q => ?_) _ p⟩
  obtain ⟨B, F, G0, G1, r1, ds, i1, v1, p1⟩ := q
  unfold iEnum at p1
  split at p1
  · obtain ⟨x, r, rfl, v2, v4⟩ := v1
    obtain ⟨a, xs, rfl, a1, a2⟩ := v2
    cases v4
    exact ⟨a, xs, rfl, .inl ⟨same_l i1.gh a1, p1 G1 H1 _ (.refl _) i1 (it_enumG (it_list a1 a2))⟩⟩
  · obtain ⟨x, r, rfl, v2, v4⟩ := v1
    obtain ⟨a, xs, rfl, a1, a2⟩ := v2
    cases v4
    exact ⟨a, xs, rfl, .inr ⟨same_t i1.gh a1, p1 G1 H1 _ (.refl _) i1 (it_enumG (it_tup a1 a2))⟩⟩
  · exact p1.elim
theorem di_enzip (hg : Gl X "enumerate") (hm : X.mg "enumerate" = none) (hg2 : Gl X "zip") (hm2 : X.mg "zip" = none) (ha : DA X TG W [e, e2] r) 
    (hs1 : starEach [.Call (.Name "zip" p3) [e, e2] [] pos2] X.env = (false, eval (.Call (.Name "zip" p3) [e, e2] [] pos2) X.env) :: starEach [] X.env := by rfl)
    (hs : starEach [e, e2] X.env = (false, eval e X.env) :: starEach [e2] X.env := by rfl) (hpl : (backTo pos2 (starEach [e2] X.env)).any (·.1) = false := by rfl) :
    DI X TG W (.Tuple elts kk tpos) (.Call (.Name "enumerate" p) [.Call (.Name "zip" p3) [e, e2] [] pos2] [] pos) (aBind r iEnZip) := PI_imp (pi_enumZ hg hm hg2 hm2 ha hs1 hs hpl) fun s H R q => by
  obtain ⟨B, F, G0, G, z, i, p⟩ := rdI_args q
  refine ⟨B, F, G0, G, z, i, post_imp (fun xs H1 q => ?_) _ p⟩
  obtain ⟨B, F, G0, G1, r1, ds, i1, v1, p1⟩ := q
  unfold iEnZip at p1
  split at p1
  · obtain ⟨x, r, rfl, v2, y, r', rfl, v3, v4⟩ := v1
    obtain ⟨a, xs, rfl, a1, a2⟩ := v2
    obtain ⟨b, ys, rfl, b1, b2⟩ := v3
    cases v4
    exact ⟨a, b, xs, ys, rfl, .inl ⟨same_l i1.gh a1, same_l i1.gh b1, p1 G1 H1 _ (.refl _) i1 (it_enumG (it_zipS a1 b1 a2 b2))⟩⟩
  · obtain ⟨x, r, rfl, v2, y, r', rfl, v3, v4⟩ := v1
    obtain ⟨a, xs, rfl, a1, a2⟩ := v2
    obtain ⟨b, ys, rfl, b1, b2⟩ := v3
    cases v4
    exact ⟨a, b, xs, ys, rfl, .inr ⟨same_t i1.gh a1, same_t i1.gh b1, p1 G1 H1 _ (.refl _) i1 (it_enumG (it_zipTS a1 b1 a2 b2))⟩⟩
  · exact p1.elim
end
end TW

end
section
/-! dict displays with text keys, d.get(k, x), as values that no one changes. -/
namespace TW
open PySem PySem.Spec PyProof.Rows L2
section
variable {K : PySem.W.Frag} {TG : List TbK} {B : List (Nat × Addr)} {F G0 G H : Hp} {r : List Sl} {s : L2.St} {D : Addr} {o o' : HO}
theorem SR.holdO (i : SR K TG B F G0 G H r s) (hD : H D = none) (ho : ∀ ps, o ≠ .tbl ps) : SR K TG B (upd F D o) G0 G (upd H D o) r s := by
  have gD := none_sub i.gh hD
  refine ⟨i.len, i.gh.trans (same_new hD), fun b u q => ?_, i.g0, fun b u q => ?_, i.gt, fun b ps q => ?_, fun P hP => tab_same (same_new hD) (i.tb P hP), i.vals, fun j ds q => ?_, i.sep, i.ios⟩
  · by_cases z : b = D
    · subst z; rw [upd_same] at q ⊢; exact q
    · rw [upd_ne z] at q ⊢; exact i.fh _ _ q
  · have z : b ≠ D := fun e => by subst e; rw [gD] at q; cases q
    rw [upd_ne z]
    exact i.fg b u q
  · by_cases z : b = D
    · subst z; rw [upd_same] at q; cases q; exact ho ps rfl
    · rw [upd_ne z] at q; exact i.ft _ _ q
  · obtain ⟨a, xs, h1, h2, h3, h4, h5⟩ := i.owns j ds q
    have z : a ≠ D := fun e => by subst e; rw [hD] at h2; cases h2
    exact ⟨a, xs, h1, by rw [upd_ne z]; exact h2, h3, h4, by rw [upd_ne z]; exact h5⟩
theorem SR.heldO (i : SR K TG B (upd F D o) G0 G H r s) (gD : G D = none) (h1 : ∀ ps, o ≠ .tbl ps) (h2 : ∀ ps, o' ≠ .tbl ps) (h1c : ∀ q, o ≠ LamX.CodeO D q) : SR K TG B (upd F D o') G0 G (upd H D o') r s := by
  have hD : H D = some o := i.fh _ _ upd_same
  refine ⟨i.len, fun b u q => ?_, fun b u q => ?_, i.g0, fun b u q => ?_, i.gt, fun b ps q => ?_, fun P hP => ?_, i.vals, fun j ds q => ?_, i.sep, i.ios⟩
  · have z : b ≠ D := fun e => by subst e; rw [gD] at q; cases q
    rw [upd_ne z]
    exact i.gh _ _ q
  · by_cases z : b = D
    · subst z; rw [upd_same] at q ⊢; exact q
    · rw [upd_ne z] at q ⊢; exact i.fh _ _ (by rw [upd_ne z]; exact q)
  · have z : b ≠ D := fun e => by subst e; rw [gD] at q; cases q
    have := i.fg b u q
    rwa [upd_ne z] at this ⊢
  · by_cases z : b = D
    · subst z; rw [upd_same] at q; cases q; exact h2 ps rfl
    · rw [upd_ne z] at q; exact i.ft b ps (by rw [upd_ne z]; exact q)
  · exact (i.tb P hP).upd hD h1 h1c
  · obtain ⟨a, zs, h1, h2, h3, h4, h5⟩ := i.owns j ds q
    have z : a ≠ D := fun e => by subst e; rw [upd_same] at h5; cases h5
    rw [upd_ne z] at h5
    exact ⟨a, zs, h1, by rw [upd_ne z]; exact h2, h3, h4, by rw [upd_ne z]; exact h5⟩
theorem SR.looseO (i : SR K TG B (upd F D o) G0 G H r s) (fD : F D = none) : SR K TG B F G0 G H r s := by
  have sub : ∀ b u, F b = some u → upd F D o b = some u := fun b u q => by
    rw [upd_ne (ne_of_none q fD)]
    exact q
  refine ⟨i.len, i.gh, fun b u q => i.fh _ _ (sub b u q), i.g0, fun b u q => ?_, i.gt, fun b ps q => i.ft b ps (sub _ _ q), i.tb, i.vals, fun j ds q => ?_, i.sep, i.ios⟩
  · refine (i.fg b u q).imp (fun z => ?_) id
    cases w : F b with
    | none => rfl
    | some y => rw [sub b y w] at z; cases z
  · obtain ⟨a, zs, h1, h2, h3, h4, h5⟩ := i.owns j ds q
    refine ⟨a, zs, h1, h2, h3, h4, ?_⟩
    cases w : F a with
    | none => rfl
    | some y => rw [sub a y w] at h5; cases h5
theorem SR.gnoneO (i : SR K TG B (upd F D o) G0 G H r s) (h0 : G0 D = none) : G D = none := by
  cases q : G D with
  | none => rfl
  | some u =>
    rcases i.fg D u q with z | z
    · rw [upd_same] at z; cases z
    · rw [h0] at z; cases z
/-- what is no list and no table, put into the values' part -/
theorem SR.putG (i : SR K TG B F G0 G H r s) (hH : H D = some o) (gD : G D = none) (fD : F D = none) (h1 : ∀ ps, o ≠ .tbl ps) (h2 : ∀ xs, o ≠ .lst xs) : Same G (upd G D o) ∧ SR K TG B F G0 (upd G D o) H r s := by
  have sg : Same G (upd G D o) := same_new gD
  refine ⟨sg, i.len, fun b u q => ?_, i.fh, i.g0.trans sg, fun b u q => ?_, fun b ps q => ?_, i.ft, i.tb, fun j d q => ?_, fun j ds q => ?_, i.sep, i.ios⟩
  · by_cases z : b = D
    · subst z; rw [upd_same] at q; cases q; exact hH
    · rw [upd_ne z] at q; exact i.gh _ _ q
  · by_cases z : b = D
    · subst z; exact .inl fD
    · rw [upd_ne z] at q; exact i.fg b u q
  · by_cases z : b = D
    · subst z; rw [upd_same] at q; cases q; exact h1 ps rfl
    · rw [upd_ne z] at q; exact i.gt b ps q
  · obtain ⟨v, a, b⟩ := i.vals j d q
    exact ⟨v, a, Rv.mono sg _ _ b⟩
  · obtain ⟨a, xs, k1, k2, k3, k4, k5⟩ := i.owns j ds q
    refine ⟨a, xs, k1, k2, RvA.mono sg _ _ k3, ?_, k5⟩
    have z : a ≠ D := fun e => by subst e; rw [hH] at k2; cases k2; exact h2 _ rfl
    rw [upd_ne z]
    exact k4
end

/-! ### {'a': e, ..} -/
def RPs (K : PySem.W.Frag) (ks : List Str) : RL (List PyData) (List (V × V)) := fun G ds ps => ∃ vs, ps = (ks.zip vs).map (fun p => (V.str p.1, p.2)) ∧ vs.length = ks.length ∧ RvA K G ds vs
def DPs (X : Cx) (TG : List TbK) (W : WX) (pos : Pos) (keys : List (Option Expr)) (values : List Expr) (ks : List Str) (r : M (List PyData)) : Prop :=
  ∃ trs, PPs X pos keys values trs ∧ ∀ s H Q, rd X.K TG W (RPs X.K ks) r s H Q → tPairs trs s H Q
def psNil : M (List PyData) := .ret []
def psCons (d : M PyData) (r : M (List PyData)) : M (List PyData) := d.bind fun x => r.bind fun xs => .ret (x :: xs)
section
variable {X : Cx} {TG : List TbK} {W : WX} {pos : Pos} {keys : List (Option Expr)} {values : List Expr} {ks : List Str} {r : M (List PyData)}
theorem dps_nil : DPs X TG W pos [] [] [] psNil := ⟨[], pps_nil, fun s H Q h => rd_ret (b := ([] : List (V × V))) (R := RPs X.K []) h fun _ => ⟨[], rfl, rfl, rfl⟩⟩
theorem dps_cons {v : Expr} {d : M PyData} {k : Str} {kj : Nat} {kp : Pos} (hv : DE X TG W v d) (hr : DPs X TG W pos keys values ks r) : DPs X TG W pos (some (.Constant (.str k) kj kp) :: keys) (v :: values) (k :: ks) (psCons d r) := by
  obtain ⟨trs, h1, h2⟩ := hr
  refine ⟨_, pps_cons pe_str hv h1, fun s H Q h => ?_⟩
  obtain ⟨B, F, G0, G, z, i, p⟩ := rd_bind (R1 := RE X.K) h
  refine ⟨B, F, G0, G, z, i, post_imp (fun x H1 q => h2 s H1 _ ?_) _ p⟩
  obtain ⟨B, F, G0, G1, r1, a, i1, v1, p1⟩ := q
  refine ⟨B, F, G0, G1, r1, i1, post_imp (fun xs H2 q => ?_) _ (post_bind (R1 := RPs X.K ks) _ p1)⟩
  obtain ⟨G2, r2, as, e2, i2, ⟨vs, rfl, l, v2⟩, p2⟩ := q
  exact p2 G2 H2 _ (.refl _) i2 ⟨x :: vs, rfl, by simp [l], x, vs, rfl, Rv.mono e2 _ _ v1, v2⟩
def dDisp (ks : List Str) (r : M (List PyData)) : M PyData := r.bind fun vs => .ret (.dict ((ks.zip vs).map fun p => (.str p.1, p.2)))
theorem mergeK_new : ∀ {more kvs : List (Key × V)}, ((kvs ++ more).map (·.1)).Nodup → mergeK kvs more = kvs ++ more
  | [], kvs, _ => by simp [mergeK]
  | p :: more, kvs, h => by
    have h1 : ∀ q ∈ kvs, q.1 ≠ p.1 := fun q hq e => by
      rw [List.map_append, List.nodup_append] at h
      exact h.2.2 _ (List.mem_map.mpr ⟨q, hq, rfl⟩) _ (List.mem_map.mpr ⟨p, List.mem_cons_self, rfl⟩) e
    have e1 : putK kvs p.1 p.2 = kvs ++ [p] := by
      unfold putK
      rw [if_neg]
      intro c
      obtain ⟨q, hq, e⟩ := List.any_eq_true.mp c
      exact h1 q hq (of_decide_eq_true e)
    show mergeK (putK kvs p.1 p.2) more = _
    rw [e1, mergeK_new (by simpa using h)]
    simp
theorem rvD_zip {K : PySem.W.Frag} {G : Hp} : ∀ {ks : List Str} {ds : List PyData} {vs : List V}, vs.length = ks.length → RvA K G ds vs → RvD K G ((ks.zip ds).map fun p => (.str p.1, p.2)) ((ks.zip vs).map fun p => ((.inr p.1 : Key), p.2))
  | [], _, _, _, _ => rfl
  | k :: ks, [], vs, l, h => by cases h; simp at l
  | k :: ks, d :: ds, _, l, ⟨x, r, e, h2, h3⟩ => by
    subst e
    exact ⟨_, _, rfl, ⟨rfl, h2⟩, rvD_zip (by simpa using l) h3⟩
theorem de_disp (h : DPs X TG W pos keys values ks r) (hall : keys.all (·.isSome) = true) (hl : keys.length = values.length) (h0 : keys ≠ []) (h15 : keys.length ≤ 15) (hk : ks.length = keys.length) (nd : ks.Nodup) : DE X TG W (.Dict keys values pos) (dDisp ks r) := by
  obtain ⟨trs, h1, h2⟩ := h
  refine PE_imp (pe_disp h1 hall hl h0 h15) fun s H Q q => ?_
  intro p hp
  obtain ⟨B, F, G0, G, z, i, pp⟩ := q
  have fD : F p = none := none_sub i.fh hp
  have gD : G p = none := none_sub i.gh hp
  have g0D : G0 p = none := none_sub i.g0 gD
  have ih := i.holdO (o := .dK []) hp (fun _ e => by cases e)
  refine h2 s _ _ ⟨B, _, G0, G, z, ih, ?_⟩
  unfold dDisp M.bind at pp
  cases hr : r z with
  | st => rw [hr] at pp; exact pp
  | ex x r1 => rw [hr] at pp; exact fun G' H' c dx e' i' => pp G' H' c dx e' (i'.looseO fD)
  | ok vs r1 =>
    rw [hr] at pp
    rintro G' H' ps e' i' ⟨vs', rfl, l, rv⟩
    have gD' := i'.gnoneO g0D
    have hD' : H' p = some (.dK []) := i'.fh _ _ upd_same
    let kvs : List (Key × V) := (ks.zip vs').map fun p => ((.inr p.1 : Key), p.2)
    have nk : (kvs.map (·.1)).Nodup := by
      have e : kvs.map (·.1) = ks.map (fun k => (.inr k : Key)) := by
        show ((ks.zip vs').map _).map _ = _
        rw [List.map_map]
        have e2 : ks = (ks.zip vs').map Prod.fst := (List.map_fst_zip (by omega)).symm
        conv => rhs; rw [e2]
        rw [List.map_map]
        rfl
      rw [e]
      exact List.Pairwise.map _ (fun a b h e => h (by cases e; rfl)) nd
    have em : mergeK [] kvs = kvs := by rw [mergeK_new (by simpa using nk)]; simp
    refine ⟨hD', kvs, ?_, ?_, ?_⟩
    · show (ks.zip vs').map _ = ((ks.zip vs').map _).map _
      rw [List.map_map]
      rfl
    · show ((ks.zip vs').map _).length ≤ 15
      rw [List.length_map, List.length_zip]
      omega
    · rw [em]
      have i2 := (i'.heldO (o' := .dK kvs) gD' (fun _ e => by cases e) (fun _ e => by cases e) (fun _ => codeO_dK)).looseO fD
      obtain ⟨sg, i3⟩ := i2.putG (D := p) (o := .dK kvs) upd_same gD' fD (fun _ e => by cases e) (fun _ e => by cases e)
      exact pp _ _ _ (e'.trans sg) i3 (.inr ⟨p, kvs, rfl, upd_same, rvD_zip l (RvA.mono sg _ _ rv)⟩)
end

/-! ### d.get(k, x) -/
def isKd (kvs : List (PyData × PyData)) : Bool := kvs.all fun kv => (keyD kv.1).isSome
def getK (kvs : List (PyData × PyData)) (k : Key) : Option PyData := (kvs.find? fun kv => decide (keyD kv.1 = some k)).map (·.2)
theorem rvD_get {K : PySem.W.Frag} {G : Hp} : ∀ {kvs : List (PyData × PyData)} {ks : List (Key × V)} (k : Key), RvD K G kvs ks → (getK kvs k = none ∧ valV ks k = none) ∨ ∃ d v, getK kvs k = some d ∧ valV ks k = some v ∧ Rv K G d v
  | [], _, k, h => by cases h; exact .inl ⟨rfl, rfl⟩
  | (a, d) :: kvs, _, k, ⟨x, r, e, ⟨h1, h2⟩, h3⟩ => by
    subst e
    by_cases q : x.1 = k
    · refine .inr ⟨d, x.2, ?_, valV_pos q, h2⟩
      unfold getK
      rw [List.find?_cons_of_pos (by rw [h1, q]; simp)]
      rfl
    · have e1 : getK ((a, d) :: kvs) k = getK kvs k := by
        unfold getK
        rw [List.find?_cons_of_neg (by rw [h1]; simpa using q)]
      rw [e1, valV_neg q]
      exact rvD_get k h3
theorem rv_dK {K : PySem.W.Frag} {G : Hp} {kvs : List (PyData × PyData)} {v : V} (h : Rv K G (.dict kvs) v) (c : isKd kvs = true) : ∃ a ks, v = .ref a ∧ G a = some (HO.dK ks) ∧ RvD K G kvs ks := by
  rcases h with ⟨a, ns, e, _⟩ | h
  · cases e
    simp [isKd, keyD] at c
  · exact h
theorem keyD_v {K : PySem.W.Frag} {G : Hp} {d : PyData} {k : Key} {v : V} (h : Rv K G d v) (e : keyD d = some k) : v = kV k := by
  cases d with
  | int i => cases e; exact h
  | str x => cases e; exact h
  | _ => cases e
def gKd : PyData → Option (List (PyData × PyData))
  | .dict kvs => if isKd kvs = true then some kvs else none
  | _ => none
def fGet2 (kvs : List (PyData × PyData)) (k z : PyData) : Option PyData := match keyD k with
  | some q => some ((getK kvs q).getD z)
  | none => none
def dGet2 (d k x : M PyData) : M PyData := d.bind fun a => match gKd a with
  | some kvs => k.bind fun b => x.bind fun c => .opt (fGet2 kvs b c)
  | none => .st
theorem gKd_rv {K : PySem.W.Frag} {G : Hp} {d : PyData} {v : V} {kvs : List (PyData × PyData)} (h : Rv K G d v) (e : gKd d = some kvs) : ∃ a ks, v = .ref a ∧ G a = some (HO.dK ks) ∧ RvD K G kvs ks := by
  unfold gKd at e
  split at e
  · split at e
    · rename_i c
      cases e
      exact rv_dK h c
    · cases e
  · cases e
section
variable {X : Cx} {TG : List TbK} {W : WX} {o e f : Expr} {apos cpos : Pos} {d k x : M PyData}
theorem de_get2 (hu : X.A.units + 1 < cLine) (ho : DE X TG W o d) (he : DE X TG W e k) (hf : DE X TG W f x) (m : M2 X o "get" apos e f cpos) :
    DE X TG W (.Call (.Attribute o "get" apos) [e, f] [] cpos) (dGet2 d k x) := PE_imp (pe_dget2 hu ho he hf m) fun s H Q q => by
  obtain ⟨B, F, G0, G, z, i, p⟩ := rd_bind (R1 := RE X.K) q
  refine ⟨B, F, G0, G, z, i, post_imp (fun v H1 q => ?_) _ p⟩
  obtain ⟨B, F, G0, G1, r1, a, i1, v1, p1⟩ := q
  cases hk : gKd a with
  | none => rw [hk] at p1; exact p1.elim
  | some kvs =>
    rw [hk] at p1
    obtain ⟨D, ks, rfl, hD, rv⟩ := gKd_rv v1 hk
    refine ⟨D, rfl, .inl ⟨ks, .inl (i1.gh _ _ hD)⟩, B, F, G0, G1, r1, i1, post_imp (fun y H2 q => ?_) _ (post_bind (R1 := RE X.K) _ p1)⟩
    obtain ⟨G2, r2, b, e2, i2, v2, p2⟩ := q
    refine ⟨B, F, G0, G2, r2, i2, post_imp (fun w2 H3 q => ?_) _ (post_bind (R1 := RE X.K) _ p2)⟩
    obtain ⟨G3, r3, c, e3, i3, v3, p3⟩ := q
    unfold fGet2 at p3
    cases hq : keyD b with
    | none => rw [hq] at p3; exact p3.elim
    | some q =>
      rw [hq] at p3
      have p3 : post X.K TG W (RE X.K) B F G0 G3 s Q ((M.ret ((getK kvs q).getD c) : M PyData) r3) := p3
      have ey := keyD_v v2 hq
      have hD3 : H3 D = some (.dK ks) := i3.gh _ _ (e3 _ _ (e2 _ _ hD))
      refine ⟨valV ks q, .inl ⟨ks, q, .inl hD3, ey, rfl⟩, ?_⟩
      rcases rvD_get q (RvD.mono (e2.trans e3) _ _ rv) with ⟨g1, g2⟩ | ⟨d', v', g1, g2, g3⟩
      · rw [g1] at p3
        rw [g2]
        exact p3 G3 H3 _ (.refl _) i3 v3
      · rw [g1] at p3
        rw [g2]
        exact p3 G3 H3 _ (.refl _) i3 g3
end
end TW

end
section
namespace TW
open PySem PySem.Spec PyProof.Rows L2
def dNeg (d : M PyData) : M PyData := d.bind fun x => match x with
  | .int i => .ret (.int (-i))
  | _ => .st
section
variable {X : Cx} {TG : List TbK} {W : WX} {e : Expr} {d : M PyData} {pos : Pos}
theorem de_neg (h : DE X TG W e d) : DE X TG W (.UnaryOp .USub e pos) (dNeg d) := PE_imp (pe_un un_neg h) fun s H Q q => by
  obtain ⟨B, F, G0, G, r, i, p⟩ := rd_bind (R1 := RE X.K) q
  refine ⟨B, F, G0, G, r, i, post_imp (fun x H1 q => ?_) _ p⟩
  obtain ⟨B, F, G0, G1, r1, a, i1, v1, p1⟩ := q
  cases a with
  | int n => exact ⟨n, v1, p1 G1 H1 _ (.refl _) i1 rfl⟩
  | none => exact p1.elim
  | bool _ => exact p1.elim
  | str _ => exact p1.elim
  | list _ => exact p1.elim
  | tuple _ => exact p1.elim
  | dict _ => exact p1.elim
end
end TW

end
section
/-! the end: from what a law's def computes to the law. -/
namespace TW
open PySem PySem.Spec PyProof.Rows L2
theorem code_is {K : PySem.W.Frag} {x qual : Str} {params : Arguments} {body : List Stmt} {scope : Scope} {dvs : List V} {kws : List (Str × V)} {p : He.Defn} {fd : FuncData} (F : FunD K x qual params body scope dvs kws (He.fAd K p) fd) : fd.code = .ref (He.cT K p).1 := by
  obtain ⟨oc, od, dV, kV, doc, pm, an, cdv, ct, osl, rfl, lk, hcd, _, _⟩ := F.ex
  obtain ⟨c, rfl⟩ := He.codeIn_ref hcd
  have e := He.codeOf_eq (c := c) lk rfl
  show (Value.ref c : Value) = .ref (He.codeOf K p)
  rw [e]
/-- the values' part of a heap: all but the tables -/
def noTab (H : Hp) : Hp := fun b => match H b with
  | some (.tbl _) => none
  | x => x
theorem noTab_same {H : Hp} : Same (noTab H) H := fun b u e => by
  unfold noTab at e
  split at e
  · cases e
  · exact e
theorem noTab_keep {H : Hp} {b : Addr} {u : HO} (e : H b = some u) (h : ∀ ps, u ≠ .tbl ps) : noTab H b = some u := by
  unfold noTab
  split
  · rename_i ps q
    rw [e] at q
    cases q
    exact absurd rfl (h ps)
  · exact e
theorem seq_noTab {K : PySem.W.Frag} {H : Hp} {a : Addr} {xs : List V} (h : SqL K H a xs) : SqL K (noTab H) a xs := by
  rcases h with (h | ⟨o, h⟩) | h
  · exact .inl (.inl (noTab_keep h fun _ e => by cases e))
  · exact .inl (.inr ⟨o, noTab_keep h fun _ e => by cases e⟩)
  · exact .inr h
theorem law_sp {K : PySem.W.Frag} {TG : List TbK} {D : M PyData} {H : Hp} {a : Addr} {ns : List Int} {r : List Sl} (tb : ∀ z ∈ TG, H z.P = some (.tbl #[])) (hS : SqL K H a (ns.map V.int)) (e : D [.v (scr ns)] = .ok (.bool true) r) :
    SpOf K TG 1 D [.ref a] H (fun v _ => v = .bl true) fun _ _ _ => False := by
  refine ⟨rfl, [], fun _ => none, noTab H, noTab H, [.v (scr ns)], ?_, ?_⟩
  · refine ⟨rfl, noTab_same, fun _ _ q => (by cases q), .refl _, fun _ _ _ => .inl rfl, fun b ps q => ?_, fun _ _ q => (by cases q), fun P hP => ⟨_, tb P hP, ?_, fun q _ pos cv hc => by simp [codeAmong] at hc⟩, fun i d q => ?_, fun i ds q => ?_, fun i j b ds es n q1 q2 => ?_, fun p hp => (by cases hp)⟩
    · unfold noTab at q
      split at q
      · cases q
      · rename_i h
        exact h ps q
    · first | exact trivial | exact .nil | (intro _ h; cases h) | simp [TriplesOk]
    · cases i with
      | zero =>
        cases q
        exact ⟨_, rfl, .inl ⟨a, ns, rfl, rfl, seq_noTab hS⟩⟩
      | succ i => simp at q
    · cases i with
      | zero => simp [Sl.own] at q
      | succ i => simp at q
    · cases i with
      | zero => simp [Sl.own] at q1
      | succ i => simp at q1
  · rw [e]
    exact fun G' H' v s e' i' hv => hv
/-- the end of a law whose run is told by D -/
theorem law_at {l : PySem.W.OpenLaw} {w : World} {K : PySem.W.Frag} {h : Heap} {mg : Str → Option Value} {f : Addr} {fd : FuncData} {k n : Nat} {x : Str} {tf : List He.Defn} {D : M PyData} {kq : He.Defn → Option Str}
    (hT : ∀ p ∈ tf, h.get? (He.cT K p).2 = some { cls := .none, data := .fields #[] }) (nT : ∀ p ∈ tf, K.lookup (He.cT K p).2 = none) (hC : ∀ p ∈ tf, PySem.W.codeHdIn K (He.cT K p).1 (He.cT K p).2 = true) (X : K.In h)
    (hb : ∀ (s : Shared) (u : Value), BindsTo s fd ⟨[u], []⟩ [(x, u)])
    (hD : ∀ ns : List Int, ns.length ≤ n → (∀ z ∈ ns, Builtin.Int.intBits z ≤ 1048576) → ∃ r, D [.v (scr ns)] = .ok (.bool true) r)
    (hF : ∀ base : Heap, K.In base → base.Ns mainGlobals mg → (∀ p ∈ tf, GxR.TabB base mg (He.cT K p).1 (He.cT K p).2) → FnOk l.prog w K mg base (L2.CX l.prog w) k f fd [x] (SpOf K (tf.map fun p => (⟨(He.cT K p).2, kq p⟩ : TbK)) 1 D)) :
    LamX.LawAtS l w K (L2.CX l.prog w) k n x mg f h := by
  refine ⟨fd, tf.map (He.cT K), SpOf K (tf.map fun p => (⟨(He.cT K p).2, kq p⟩ : TbK)) 1 D, fun p hp => ?_, fun p hp => ?_, fun p hp => ?_, hb, fun H a ns hl hz ht hS => ?_, fun base X' G' T => hF base X' G' fun p hp => ?_⟩
  · obtain ⟨q, hq, rfl⟩ := List.mem_map.mp hp; exact hT q hq
  · obtain ⟨q, hq, rfl⟩ := List.mem_map.mp hp; exact nT q hq
  · obtain ⟨q, hq, rfl⟩ := List.mem_map.mp hp; exact PySem.W.codeHd_of_K X (hC q hq)
  · obtain ⟨r, e⟩ := hD ns hl hz
    refine law_sp (fun P hP => ?_) hS e
    obtain ⟨q, hq, rfl⟩ := List.mem_map.mp hP
    exact ht _ (List.mem_map.mpr ⟨q, hq, rfl⟩)
  · have t := T _ (List.mem_map.mpr ⟨p, hp, rfl⟩)
    exact ⟨t.code, t.bm, t.gP⟩
theorem cx_never {P : Program} (w : World) (H : Hp) (s : Shared) (e : Value) (s' : Shared) (h : L2.CX P w [] H s (fun _ _ _ => False) e s') : False := by
  obtain ⟨_, _, _, _, _, _, _, _, _, _, _, _, h⟩ := h
  exact h.elim
/-! a run that asks the world one thing: both answers are run -/
def setFt (w : World) (b : Bool) : World := { w with params := { w.params with followText := fun s => if s = "special-get-raises" then b else w.params.followText s } }
theorem setFt_eq (w : World) : setFt w (w.params.followText "special-get-raises") = w := by
  have e : (fun s => if s = "special-get-raises" then w.params.followText "special-get-raises" else w.params.followText s) = w.params.followText := by
    funext s
    split
    · rename_i h
      rw [h]
    · rfl
  unfold setFt
  rw [e]
theorem run_ft {p : World → Prop} (h : ∀ w b, p (setFt w b)) (w : World) : p w := by
  have := h w (w.params.followText "special-get-raises")
  rwa [setFt_eq] at this
end TW

end
section
/-! data that are the same, by a Bool -/
namespace TW
open PySem
mutual
def sameD : PyData → PyData → Bool
  | .none, .none => true
  | .bool a, .bool b => decide (a = b)
  | .int a, .int b => decide (a = b)
  | .str a, .str b => decide (a = b)
  | .list a, .list b => sameDs a b
  | .tuple a, .tuple b => sameDs a b
  | _, _ => false
def sameDs : List PyData → List PyData → Bool
  | [], [] => true
  | a :: as, b :: bs => sameD a b && sameDs as bs
  | _, _ => false
end
mutual
theorem sameD_eq : ∀ (a b : PyData), sameD a b = true → a = b
  | .none, b, h => by cases b <;> simp [sameD] at h ⊢
  | .bool _, b, h => by cases b <;> simp [sameD] at h ⊢; exact h
  | .int _, b, h => by cases b <;> simp [sameD] at h ⊢; exact h
  | .str _, b, h => by cases b <;> simp [sameD] at h ⊢; exact h
  | .list a, b, h => by
    cases b <;> simp [sameD] at h ⊢
    exact sameDs_eq _ _ h
  | .tuple a, b, h => by
    cases b <;> simp [sameD] at h ⊢
    exact sameDs_eq _ _ h
  | .dict _, b, h => by cases b <;> simp [sameD] at h
theorem sameDs_eq : ∀ (a b : List PyData), sameDs a b = true → a = b
  | [], [], _ => rfl
  | [], _ :: _, h => by simp [sameDs] at h
  | _ :: _, [], h => by simp [sameDs] at h
  | a :: as, b :: bs, h => by
    simp only [sameDs, Bool.and_eq_true] at h
    rw [sameD_eq a b h.1, sameDs_eq as bs h.2]
end
end TW

end
section
/-! plain laws: loops and comprehensions by invariants. -/
namespace TW
open PySem PySem.Spec PyProof.Rows L2
section
variable {T : Tg} {tt : M Bool} {elt : M PyData} {own : List Nat} {b : M Fl}
/-- a comprehension whose items are f of what is walked -/
theorem lc_map {P : List Sl → Prop} {f : PyData → PyData} : ∀ {ds : List PyData} {acc : List PyData} {r : List Sl}, P r →
    (∀ d ∈ ds, ∀ r, P r → noIo r own = true ∧ ∃ r1 r2 r3, T d (wipeR r own) = some r1 ∧ tt r1 = .ok true r2 ∧ elt r2 = .ok (f d) r3 ∧ P r3) → ∃ r', lcF own T tt elt ds acc r = .ok (acc ++ ds.map f) r' ∧ P r'
  | [], acc, r, h, _ => ⟨r, by simp [lcF, M.ret], h⟩
  | d :: ds, acc, r, h, step => by
    obtain ⟨h1, r1, r2, r3, e1, e2, e3, h3⟩ := step d List.mem_cons_self r h
    obtain ⟨r', e, h'⟩ := lc_map (ds := ds) (acc := acc ++ [f d]) h3 fun z hz => step z (List.mem_cons_of_mem _ hz)
    exact ⟨r', by simp only [lcF, h1, if_true, e1, e2, e3, e]; simp, h'⟩
/-- a comprehension whose items are so -/
theorem lc_inv {P : List Sl → Prop} {Q : PyData → Prop} : ∀ {ds : List PyData} {acc : List PyData} {r : List Sl}, P r →
    (∀ d ∈ ds, ∀ r, P r → noIo r own = true ∧ ∃ r1 r2 r3 y, T d (wipeR r own) = some r1 ∧ tt r1 = .ok true r2 ∧ elt r2 = .ok y r3 ∧ Q y ∧ P r3) →
    ∃ ys r', lcF own T tt elt ds acc r = .ok (acc ++ ys) r' ∧ ys.length = ds.length ∧ (∀ y ∈ ys, Q y) ∧ P r'
  | [], acc, r, h, _ => ⟨[], r, by simp [lcF, M.ret], rfl, fun _ h => absurd h (by simp), h⟩
  | d :: ds, acc, r, h, step => by
    obtain ⟨h1, r1, r2, r3, y, e1, e2, e3, hq, h3⟩ := step d List.mem_cons_self r h
    obtain ⟨ys, r', e, hl, hys, h'⟩ := lc_inv (ds := ds) (acc := acc ++ [y]) h3 fun z hz => step z (List.mem_cons_of_mem _ hz)
    refine ⟨y :: ys, r', by simp only [lcF, h1, if_true, e1, e2, e3, e]; simp, by simp [hl], fun z hz => ?_, h'⟩
    rcases List.mem_cons.mp hz with rfl | hz
    · exact hq
    · exact hys z hz
/-- a loop that runs to its end -/
theorem for_inv {P : Nat → List Sl → Prop} : ∀ {ds : List PyData} {k : Nat} {r : List Sl}, P k r →
    (∀ (i : Nat) (d : PyData) (r : List Sl), ds[i]? = some d → P (k + i) r → ∃ r1 r2, T d r = some r1 ∧ (b r1 = .ok .nx r2 ∨ b r1 = .ok .ct r2) ∧ P (k + i + 1) r2) → ∃ r', forF T b ds r = .ok .nx r' ∧ P (k + ds.length) r'
  | [], k, r, h, _ => ⟨r, rfl, h⟩
  | d :: ds, k, r, h, step => by
    obtain ⟨r1, r2, e1, e2, h2⟩ := step 0 d r rfl h
    obtain ⟨r', e, h'⟩ := for_inv (ds := ds) (k := k + 1) (P := P) h2 fun i z s hz hs => by
      have q := step (i + 1) z s (by simpa using hz) (by rw [show k + (i + 1) = k + 1 + i by omega]; exact hs)
      rwa [show k + (i + 1) + 1 = k + 1 + i + 1 by omega] at q
    refine ⟨r', ?_, by rw [List.length_cons, show k + (ds.length + 1) = k + 1 + ds.length by omega]; exact h'⟩
    rcases e2 with e2 | e2
    · simp only [forF, e1, e2, e]
    · simp only [forF, e1, e2, e]
/-- all(..), any(..) that never stops: every turn answers the other way -/
theorem gen_thru {stop : Bool} {P : List Sl → Prop} : ∀ {ds : List PyData} {r : List Sl}, P r →
    (∀ d ∈ ds, ∀ r, P r → noIo r own = true ∧ ∃ r1 r2 r3, T d (wipeR r own) = some r1 ∧ tt r1 = .ok true r2 ∧ elt r2 = .ok (.bool (!stop)) r3 ∧ P r3) → ∃ r', genF stop own T tt elt ds r = .ok (.bool (!stop)) r' ∧ P r'
  | [], r, h, _ => ⟨r, rfl, h⟩
  | d :: ds, r, h, step => by
    obtain ⟨h1, r1, r2, r3, e1, e2, e3, h3⟩ := step d List.mem_cons_self r h
    obtain ⟨r', e, h'⟩ := gen_thru (stop := stop) (ds := ds) h3 fun z hz => step z (List.mem_cons_of_mem _ hz)
    refine ⟨r', ?_, h'⟩
    have hn : ¬ ((!stop) = stop) := by cases stop <;> simp
    simp only [genF, h1, if_true, e1, e2, e3, hn, if_false, e]
/-- .. that stops at the j-th -/
theorem gen_stop {stop : Bool} {P : List Sl → Prop} : ∀ {ds : List PyData} {r : List Sl}, P r →
    (∀ d ∈ ds, ∀ r, P r → noIo r own = true ∧ ∃ k r1 r2 r3, T d (wipeR r own) = some r1 ∧ tt r1 = .ok true r2 ∧ elt r2 = .ok (.bool k) r3 ∧ P r3) →
    (∃ d ∈ ds, ∀ r k r1 r2 r3, P r → T d (wipeR r own) = some r1 → tt r1 = .ok true r2 → elt r2 = .ok (.bool k) r3 → k = stop) → ∃ r', genF stop own T tt elt ds r = .ok (.bool stop) r' ∧ P r'
  | [], r, h, _, hs => by obtain ⟨d, hd, _⟩ := hs; cases hd
  | d :: ds, r, h, step, hs => by
    obtain ⟨h1, k, r1, r2, r3, e1, e2, e3, h3⟩ := step d List.mem_cons_self r h
    by_cases hk : k = stop
    · exact ⟨r3, by simp only [genF, h1, if_true, e1, e2, e3, hk, if_true], h3⟩
    · obtain ⟨z, hz, q⟩ := hs
      have hz' : z ∈ ds := by
        rcases List.mem_cons.mp hz with rfl | hz
        · exact absurd (q r k r1 r2 r3 h e1 e2 e3) hk
        · exact hz
      obtain ⟨r', e, h'⟩ := gen_stop (stop := stop) (ds := ds) h3 (fun z hz => step z (List.mem_cons_of_mem _ hz)) ⟨z, hz', q⟩
      exact ⟨r', by simp only [genF, h1, if_true, e1, e2, e3, hk, if_false, e], h'⟩
end
end TW

end
section
/-! slots that are nobody's: what the assignments do there -/
namespace TW
open PySem PySem.Spec PyProof.Rows L2
def nio : Sl → Bool
  | .io _ => false
  | _ => true
theorem gN_eq (i : Nat) (d : PyData) (r : List Sl) : gN i d r = match r[i]? with
  | some x => if nio x then some (r.set i (.v d)) else none
  | none => none := by
  unfold gN
  cases r[i]? with
  | none => rfl
  | some x => cases x <;> rfl
theorem tSet_eq (i : Nat) (d : PyData) (r : List Sl) : tSet i d r = match r[i]? with
  | some x => if nio x then .ok .nx (r.set i (.v d)) else .st
  | none => .st := by
  unfold tSet
  cases r[i]? with
  | none => rfl
  | some x => cases x <;> rfl
theorem tSetL_eq (i : Nat) (d : List PyData) (r : List Sl) : tSetL i d r = match r[i]? with
  | some x => if nio x then .ok .nx (r.set i (.l d)) else .st
  | none => .st := by
  unfold tSetL
  cases r[i]? with
  | none => rfl
  | some x => cases x <;> rfl
theorem noIo_eq (r : List Sl) (own : List Nat) : noIo r own = own.all fun v => match r[v]? with
  | some x => nio x
  | none => true := by
  unfold noIo
  congr 1
  funext v
  cases r[v]? with
  | none => rfl
  | some x => cases x <;> rfl
end TW
namespace TW
open PySem PySem.Spec PyProof.Rows L2
def wp : Sl → Sl
  | .v d => .v d
  | _ => .un
theorem nio_wp (x : Sl) : nio (wp x) = true := by cases x <;> rfl
theorem unwipe_eq (own : List Nat) (r0 r : List Sl) : unwipe own r0 r = r.mapIdx fun k x => if own.contains k then (match r0[k]? with
  | some x => wp x
  | none => .un) else x := by
  unfold unwipe
  congr 1
  funext k x
  split
  · cases r0[k]? with
    | none => rfl
    | some x => cases x <;> rfl
  · rfl
theorem enumD_get {ds : List PyData} {i : Nat} {d : PyData} (h : (enumD ds)[i]? = some d) : ∃ x, ds[i]? = some x ∧ d = .tuple [.int (i : Nat), x] := by
  unfold enumD at h
  simp only [List.getElem?_map, List.getElem?_zipIdx, Option.map_map, Nat.zero_add] at h
  cases e : ds[i]? with
  | none => rw [e] at h; cases h
  | some x =>
    rw [e] at h
    cases h
    exact ⟨x, rfl, rfl⟩
theorem enumD_len (ds : List PyData) : (enumD ds).length = ds.length := by simp [enumD]
theorem zipT_get {xs ys : List PyData} {i : Nat} {d : PyData} (h : ((xs.zip ys).map fun p => PyData.tuple [p.1, p.2])[i]? = some d) : ∃ x y, xs[i]? = some x ∧ ys[i]? = some y ∧ d = .tuple [x, y] := by
  simp only [List.getElem?_map, List.getElem?_zip_eq_some, Option.map_eq_some_iff] at h
  obtain ⟨⟨x, y⟩, h1, h2⟩ := h
  exact ⟨x, y, h1.1, h1.2, h2.symm⟩
end TW
namespace TW
open PySem PySem.Spec PyProof.Rows L2
theorem sh_int (i : Int) : SeqAt.shaped (.int i) = true := by rfl
theorem sh_bool (i : Bool) : SeqAt.shaped (.bool i) = true := by cases i <;> rfl
theorem sh_none : SeqAt.shaped .none = true := by rfl
theorem eqv_int (a b : Int) : PyData.eqv (.int a) (.int b) = decide (a = b) := by
  simp only [PyData.eqv]
  by_cases h : a = b
  · simp [h]
  · simp [h]
theorem eqv_bool (a b : Bool) : PyData.eqv (.bool a) (.bool b) = decide (a = b) := by cases a <;> cases b <;> rfl
theorem eqv_none : PyData.eqv .none .none = true := by rfl
end TW
namespace TW
theorem nio_un : nio .un = true := rfl
theorem nio_v (d : PySem.PyData) : nio (.v d) = true := rfl
theorem nio_l (d : List PySem.PyData) : nio (.l d) = true := rfl
end TW
namespace TW
open PySem PySem.Spec PyProof.Rows L2
theorem two62 : (2 : Int) ^ 62 = 4611686018427387904 := by decide
theorem iRange1_at (j : Int) : TW.iRange1 [.int j] = if -(2 ^ 62) ≤ j ∧ j < 2 ^ 62 then (.ret (rangeD 0 j.toNat) : M (List PyData)) else .st := by
  rw [iRange1]
theorem iRange1_eq (n : Nat) (h : n ≤ 1000000000) : TW.iRange1 [.int n] = (.ret (rangeD 0 n) : M (List PyData)) := by
  have h1 : -(2 ^ 62) ≤ (n : Int) ∧ (n : Int) < 2 ^ 62 := by
    rw [two62]
    constructor <;> omega
  rw [iRange1_at, if_pos h1, Int.toNat_natCast]
theorem iRange2_at (i j : Int) : TW.iRange2 [.int i, .int j] = if -(2 ^ 62) ≤ i ∧ i < 2 ^ 62 ∧ -(2 ^ 62) ≤ j ∧ j < 2 ^ 62 then (.ret (rangeD i (j - i).toNat) : M (List PyData)) else .st := by
  rw [iRange2]
theorem iRange2_eq (m n : Nat) (h : n ≤ 1000000000) (h2 : m ≤ n) : TW.iRange2 [.int m, .int n] = (.ret (rangeD m (n - m)) : M (List PyData)) := by
  have h1 : -(2 ^ 62) ≤ (m : Int) ∧ (m : Int) < 2 ^ 62 ∧ -(2 ^ 62) ≤ (n : Int) ∧ (n : Int) < 2 ^ 62 := by
    rw [two62]
    refine ⟨?_, ?_, ?_, ?_⟩ <;> omega
  have h3 : ((n : Int) - (m : Int)).toNat = n - m := by omega
  rw [iRange2_at, if_pos h1, h3]
end TW
namespace TW
open PySem PySem.Spec PyProof.Rows L2
theorem aBind_ok {α : Type} {a : M (List TW.Arg)} {r r' : List Sl} {as : List Arg} {ds : List PyData} (k : List PyData → M α) (h : a r = .ok as r') (hv : allV as = some ds) : aBind a k r = k ds r' := by
  simp only [aBind, M.bind, Res.bind, h, hv]
theorem range1_ok {a : M (List TW.Arg)} {r r' : List Sl} {n : Nat} (h : a r = .ok [.v (.int n)] r') (hn : n ≤ 1000000000) : aBind a TW.iRange1 r = .ok (rangeD 0 n) r' := by
  rw [aBind_ok TW.iRange1 h rfl, iRange1_eq n hn]
  rfl
theorem range2_ok {a : M (List TW.Arg)} {r r' : List Sl} {m n : Nat} (h : a r = .ok [.v (.int m), .v (.int n)] r') (hn : n ≤ 1000000000) (hm : m ≤ n) : aBind a TW.iRange2 r = .ok (rangeD m (n - m)) r' := by
  rw [aBind_ok TW.iRange2 h rfl, iRange2_eq m n hn hm]
  rfl
end TW
namespace TW
open PySem PySem.Spec PyProof.Rows L2
theorem fEq_int (a b : Int) : fEq (.int a) (.int b) = some (.bool (decide (a = b))) := by rw [fEq, sh_int, sh_int, eqv_int]; rfl
theorem fNe_int (a b : Int) : fNe (.int a) (.int b) = some (.bool (!decide (a = b))) := by rw [fNe, sh_int, sh_int, eqv_int]; rfl
theorem fEq_bool (a b : Bool) : fEq (.bool a) (.bool b) = some (.bool (decide (a = b))) := by rw [fEq, sh_bool, sh_bool, eqv_bool]; rfl
theorem fNe_bool (a b : Bool) : fNe (.bool a) (.bool b) = some (.bool (!decide (a = b))) := by rw [fNe, sh_bool, sh_bool, eqv_bool]; rfl
theorem fEq_none : fEq .none .none = some (.bool true) := by rw [fEq, sh_none, eqv_none]; rfl
theorem fEq_nil : fEq (.list []) (.list []) = some (.bool true) := by rfl
end TW
namespace TW
open PySem PySem.Spec PyProof.Rows L2
/-! step by step -/
theorem sIf_t {t : M Bool} {a b : M Fl} {r r' : List Sl} (h : t r = .ok true r') : sIf t a b r = a r' := by simp only [sIf, M.bind, Res.bind, h, if_true]
theorem sIf_f {t : M Bool} {a b : M Fl} {r r' : List Sl} (h : t r = .ok false r') : sIf t a b r = b r' := by
  simp only [sIf, M.bind, Res.bind, h]
  rfl
theorem sSeq_nx {a b : M Fl} {r r' : List Sl} (h : a r = .ok .nx r') : sSeq a b r = b r' := by simp only [sSeq, h]
theorem sSeq_rt {a b : M Fl} {r r' : List Sl} {d : PyData} (h : a r = .ok (.rt d) r') : sSeq a b r = .ok (.rt d) r' := by simp only [sSeq, h]
theorem sRet_ok {a : M PyData} {r r' : List Sl} {d : PyData} (h : a r = .ok d r') : sRet a r = .ok (.rt d) r' := by simp only [sRet, M.bind, Res.bind, h, M.ret]
theorem sDrop_ok {a : M PyData} {r r' : List Sl} {d : PyData} (h : a r = .ok d r') : sDrop a r = .ok .nx r' := by simp only [sDrop, M.bind, Res.bind, h, M.ret]
theorem sFor_ok {it : M (List PyData)} {T : Tg} {b : M Fl} {r r' : List Sl} {ds : List PyData} (h : it r = .ok ds r') : sFor it T b r = forF T b ds r' := by simp only [sFor, M.bind, Res.bind, h]
theorem lLc_ok {own : List Nat} {it : M (List PyData)} {T : Tg} {tt : M Bool} {elt : M PyData} {r r' : List Sl} {ds : List PyData} (h : it r = .ok ds r') : lLc own it T tt elt r = lcB own T tt elt ds r' := by simp only [lLc, M.bind, Res.bind, h]
theorem dGen_ok {stop : Bool} {own : List Nat} {it : M (List PyData)} {T : Tg} {tt : M Bool} {elt : M PyData} {r r' : List Sl} {ds : List PyData} (h : it r = .ok ds r') : dGen stop own it T tt elt r = genB stop own T tt elt ds r' := by simp only [dGen, M.bind, Res.bind, h]
theorem lcB_ok {own : List Nat} {T : Tg} {tt : M Bool} {elt : M PyData} {r r' : List Sl} {ds ys : List PyData} (hl : ds.length ≤ sizeLine) (h : lcF own T tt elt ds [] r = .ok ys r') (hn : noIo r' own = true) : lcB own T tt elt ds r = .ok ys (unwipe own r r') := by
  simp only [lcB, hl, if_true, h, hn]
theorem fnOf_rt {n N : Nat} {b : M Fl} {sl r : List Sl} {d : PyData} (hl : sl.length = n) (h : b (sl ++ List.replicate (N - n) .un) = .ok (.rt d) r) : fnOf n N b sl = .ok d r := by
  simp only [fnOf, hl, if_true, h]
theorem fnOf_nx {n N : Nat} {b : M Fl} {sl r : List Sl} (hl : sl.length = n) (h : b (sl ++ List.replicate (N - n) .un) = .ok .nx r) : fnOf n N b sl = .ok .none r := by
  simp only [fnOf, hl, if_true, h]
theorem bind_ok {α β : Type} {a : M α} {k : α → M β} {r r' : List Sl} {x : α} (h : a r = .ok x r') : (a.bind k) r = k x r' := by simp only [M.bind, Res.bind, h]
theorem dBin_oV {f : PyData → PyData → Option PyData} {a b : M PyData} {r r1 r2 : List Sl} {x y z : PyData} (h1 : a r = .ok x r1) (h2 : b r1 = .ok y r2) (h : f x y = some z) : dBin f (oV a) (oV b) r = .ok z r2 := by
  simp only [dBin, two, oV, M.bind, Res.bind, h1, h2, M.ret, reso, M.opt, h]
theorem dFz_ok {a : M (List PyData)} {r r' : List Sl} {ds : List PyData} (h : a r = .ok ds r') : dFz a r = .ok (.list ds) r' := by simp only [dFz, M.bind, Res.bind, h, M.ret]
theorem sizeLine_le {n : Nat} (h : n ≤ 1000000) : n ≤ sizeLine := by
  rw [sizeLine_eq]
  omega
end TW
namespace TW
theorem sIf_no {t : M Bool} {a : M Fl} {r r' : List Sl} (h : t r = .ok false r') : sIf t a sNil r = .ok .nx r' := by
  rw [sIf_f h]
  rfl
end TW

end
section
/-! exceptions of the program's own classes: raise C(e), try .. except K as n. -/
namespace TW
open PySem PySem.Spec PyProof.Rows L2
/-- a class C of the name x, below ValueError, whose __init__ keeps its one argument as the field f -/
structure XCls (K : PySem.W.Frag) (mg : Str → Option Value) (x f : Str) (C fI : Addr) : Prop where
  mg : mg x = some (.ref C)
  ns : PySem.W.nsIn K mainGlobals x = some (some (.ref C))
  oex : OexC K C
  init : PySem.W.findIn K (.ref C) "__init__" = some (some (.ref fI))
  ti : PySem.W.typeIn K (.ref fI) = some (.type "function")
  no : PySem.W.findIn K (.ref C) f = some none
/-- what __init__ promises -/
def spInit (K : PySem.W.Frag) (f : Str) : Sp := fun vs H Q _ => ∃ (a C : Addr) (v : V), vs = [.ref a, v] ∧ OexC K C ∧ PySem.W.findIn K (.ref C) f = some none ∧ H a = some (exo a C none) ∧
  ∀ dx, H dx = none → dx ≠ a → Q .non (upd (upd H dx (exd dx [(f, v)])) a (exo a C (some dx)))
section
variable {P : Program} {w : World} {K : PySem.W.Frag} {mg : Str → Option Value} {base : Heap} {qual : Str} {params : Arguments} {scope : Scope} {fI : Addr} {fd : FuncData} {f g : Str} {k : Nat} {p1 p2 p3 pos : Pos}
/-- def __init__(self, g): self.f = g -/
theorem init_ok {y : Str} (F : FunD K y qual params [.Assign [.Attribute (.Name "self" p1) f p2] (.Name g p3) pos] scope [] [] fI fd) (S : FnScope ["self", g] ["self", g] scope) (hv0 : Vis scope "self") (hv1 : Vis scope g)
    (hd1 : (g == ("__debug__" : Str)) = false := by decide) (hd2 : (g == ("__classdict__" : Str)) = false := by decide) :
    FnOk P w K mg base (L2.CX P w) (k + 1) fI fd ["self", g] (spInit K f) := by
  refine F.ok S (fun vs H Q E h => by obtain ⟨a, C, v, rfl, _⟩ := h; rfl) fun cdv A outer s H vs Q E hr hsp => ?_
  obtain ⟨a, C, v, rfl, T, hno, ha, hq⟩ := hsp
  refine ⟨_, pss_one (ps_ost (f := f) (pe_var (i := 0) rfl hv0) (pe_var (i := 1) rfl hv1 hd1 hd2) (by rfl)), ?_⟩
  exact ⟨v, rfl, .ref a, rfl, a, C, rfl, T, hno, .inl ⟨ha, fun dx h1 h2 => hq dx h1 h2⟩⟩
end
def sRaise1 (x f : Str) (d : M PyData) : M Fl := d.bind fun v r => .ex ⟨x, [(f, v)]⟩ r
section
variable {X : Cx} {TG : List TbK} {W : WX} {x f g : Str} {C fI : Addr} {fd : FuncData} {k : Nat} {e : Expr} {d : M PyData} {p pos pos2 : Pos}
theorem heap_exc {H1 : Hp} {a dx C : Addr} {f : Str} {v : V} (ha : H1 a = none) (hd : dx ≠ a) : upd (del (upd (upd (upd H1 a (exo a C none)) dx (exd dx [(f, v)])) a (exo a C (some dx))) a) dx (.xd [(f, v)]) = upd H1 dx (.xd [(f, v)]) := by
  funext b
  by_cases h : b = dx
  · subst h
    rw [upd_same, upd_same]
  · rw [upd_ne h, upd_ne h]
    by_cases h2 : b = a
    · subst h2
      rw [del_same, ha]
    · rw [del_ne h2, upd_ne h2, upd_ne h, upd_ne h2]
theorem ds_raise1 (hc : X.calm = true) (tk : Takes X W) (c : XCls X.K X.mg x f C fI) (F1 : FnOk X.prog X.w X.K X.mg X.base (L2.CX X.prog X.w) k fI fd ["self", g] (spInit X.K f)) (hr : Room (k + 1) X.A) (hb : Binds X.K fd ["self", g] []) (hg : Gl X x) (he : DE X TG W e d)
    (hdb : (x == ("__debug__" : Str)) = false := by decide) (hs : starEach [e] X.env = (false, eval e X.env) :: starEach [] X.env := by rfl) (hpl : (backTo pos (starEach [] X.env)).any (·.1) = false := by rfl) :
    DS X TG W (.Raise (some (.Call (.Name x p) [e] [] pos)) none pos2) (sRaise1 x f d) := PS_imp (ps_raise hc tk (pmk_oex c.oex c.init c.ti F1 hr hb .nil passL hg c.mg (pa_cons he pa_nil hs) hdb hs hpl)) fun D s H q => by
  obtain ⟨B, F, G0, G, r, i, pp⟩ := rdS_bind (R := RE X.K) q
  refine ⟨B, F, G0, G, r, i, post_imp (fun v H1 q => ?_) _ pp⟩
  obtain ⟨B, F, G0, G1, r1, a1, i1, v1, p1⟩ := q
  refine ⟨by simp, fun a ha => ⟨a, C, v, rfl, c.oex, c.no, upd_same, fun dx h1 h2 => ⟨rfl, dx, [(f, v)], upd_same, by rw [upd_ne h2, upd_same], ?_, ?_⟩⟩⟩
  · rwa [upd_ne h2] at h1
  · have hd : H1 dx = none := by rwa [upd_ne h2] at h1
    rw [heap_exc ha h2]
    have gr := Grow.new i1.gh hd (.xd [(f, v)]) (fun _ z => by cases z)
    exact p1 (upd G1 dx (.xd [(f, v)])) _ s (.ref C) (some dx) gr.g (i1.grow gr) ⟨by rw [c.ns], ⟨dx, [(f, v)], rfl, upd_same, rfl, ⟨v, [], rfl, Rv.mono gr.g _ _ v1, rfl⟩⟩⟩
end
end TW

end
section
/-! try: one expression / except K as n: y = n.f if isinstance(n, C) else 'text' -/
namespace TW
open PySem PySem.Spec PyProof.Rows L2
/-- what isinstance and the handler ask of the class -/
structure XIs (K : PySem.W.Frag) (C CK : Addr) : Prop where
  cl : (PySem.W.clsIn K C).isSome = true
  ga : PySem.W.findIn K (.ref C) "__getattribute__" = some (some (.builtin "BaseException.__getattribute__"))
  gg : PySem.W.findIn K (.ref C) "__getattr__" = some none
  sb : PySem.W.subIn K (.ref C) (.type "BaseException") = some true
  ca : PySem.W.findIn K (.ref C) "__class__" = some (some (.builtin "object.__class__"))
  sp : PySem.W.specialIn K (.builtin "object.__class__") "__get__" = some (some (.builtin "getset_descriptor.__get__"))
  tk : PySem.W.takesIn K (.builtin "object.__class__") = some true
  mr : PySem.W.mroIn K C (.type "object") = some true
  hd : PySem.W.hasDictIn K C = true
  kit : PySem.W.kitOne K (.ref C) (.ref C) = some true
  exm : PySem.W.exmOne K (.ref C) (.ref CK) = some true
/-- isinstance(n, C), n the caught exception -/
def rIsX (K : PySem.W.Frag) (a : Addr) (cls : Value) (d : Option Addr) (C CK : Addr) : List V → Hp → VK → Prop := fun xs H Q => ∃ (dd : Addr) (fs : List (Str × V)), cls = .ref C ∧ d = some dd ∧ H dd = some (.xd fs) ∧ xs = [.ref a, .ref C] ∧ Q (.bl true) H
section
variable {X : Cx} {a C CK : Addr} {oe : Obj} {cls : Value} {d : Option Addr} {pn : List (Addr × Obj)}
theorem call_isX (T : XIs X.K C CK) (hz : Zc cls d oe) (hf : ∃ vs, oe.data = .fields vs) : CallR (X.suite a ((a, oe) :: pn)) (.builtin "isinstance") (rIsX X.K a cls d C CK) := by
  intro pins s σ H xs us Q I r h
  obtain ⟨dd, fs, ec, ed, ea, ex, q⟩ := h
  subst ex
  obtain ⟨u1, u2, rfl, r1, r2⟩ := vals2 r
  obtain rfl : u1 = Value.ref a := r1
  obtain rfl : u2 = Value.ref C := r2
  subst ec
  subst ed
  obtain ⟨ha, _⟩ := I.pin (a, oe) (List.mem_append_left _ List.mem_cons_self)
  obtain ⟨vs, hdt⟩ := hf
  have hx : ObjOk X.prog X.w H s.heap dd (.xd fs) := I.hok dd _ ea
  obtain ⟨mA, hns, hr⟩ := hx
  obtain ⟨od, ho, hl⟩ := lookIn_ns hns
  have J : PySem.W.InstAt s.heap a oe C (some od) := ⟨ha, hz.1, by unfold PySem.W.notCls; rw [hdt] <;> rfl, by rw [hz.2]; exact ho⟩
  exact PySem.W.kia_one (PySem.W.kitx_exc T.cl T.ga T.gg T.sb T.ca T.sp T.tk T.mr) I.kIn J T.kit (fun z => nomatch z) fun tk => ⟨.bl true, H, I.tok tk, rfl, q⟩
end
def nioS : Sl → Bool
  | .io _ => false
  | _ => true
theorem nioS_ne {r : List Sl} {i : Nat} {x : Sl} (h : r[i]? = some x) (hx : nioS x = true) : ∀ ds, r[i]? ≠ some (.io ds) := fun ds e => by
  rw [h] at e
  cases e
  cases hx
/-- of the exceptions it knows those of the class x alone -/
def sTryIx (i j : Nat) (x f : Str) (body : M Fl) : M Fl := fun r => match body r with
  | .ex e r1 => if e.c = x then (match r1[i]?, r1[j]?, e.fs.lookup f with
    | some a, some b, some v => if nioS a && nioS b then .ok .nx ((r1.set j (.v v)).set i .un) else .st
    | _, _, _ => .st) else .st
  | y => y
theorem rva_lookup {K : PySem.W.Frag} {G : Hp} {f : Str} {d : PyData} : ∀ {fs : List (Str × PyData)} {vs : List (Str × V)}, vs.map (·.1) = fs.map (·.1) → RvA K G (fs.map (·.2)) (vs.map (·.2)) → fs.lookup f = some d → ∃ v, vs.lookup f = some v ∧ Rv K G d v
  | [], vs, _, _, h => by cases h
  | (g, e) :: fs, [], h1, _, _ => by cases h1
  | (g, e) :: fs, (g', u) :: vs, h1, h2, h => by
    simp only [List.map_cons, List.cons.injEq] at h1
    obtain ⟨rfl, h1⟩ := h1
    obtain ⟨x, r, e1, h3, h4⟩ := h2
    simp only [List.map_cons, List.cons.injEq] at e1
    obtain ⟨rfl, rfl⟩ := e1
    by_cases q : f = g'
    · subst q
      simp only [List.lookup_cons, beq_self_eq_true] at h ⊢
      cases h
      exact ⟨u, rfl, h3⟩
    · have hb : (f == g') = false := by simpa using q
      simp only [List.lookup_cons, hb] at h ⊢
      exact rva_lookup h1 h4 h
section
variable {X : Cx} {TG : List TbK} {W : WX} {ke n x y f : Str} {C CK fI : Addr} {i j : Nat} {body : List Stmt} {b : M Fl} {oth : Str} {jj : Nat} {np p1 p2 p3 p4 p5 p6 p7 p8 p9 p10 pos' pos : Pos}
theorem ds_try_ix (hs : X.stack = X.env :: X.outer) (hf : X.env.frame = some X.env.locals) (hN : X.N.Nodup) (hi : X.N[i]? = some n) (hln : X.env.kindOf n = some .local) (hj : X.N[j]? = some y) (hlj : Loc X.env.scope y) (hfj : X.fn y = true ∨ X.env.scope.names.lookup y = some .local) (hij : i ≠ j) (hv : Vis X.env.scope n)
    (hk : Names X ke (.ref CK)) (tk : Takes X W) (c : XCls X.K X.mg x f C fI) (T : XIs X.K C CK) (hgi : Gl X "isinstance") (hmi : X.mg "isinstance" = none) (hgx : Gl X x)
    (hb : ∀ (W' : WX) (pn : List (Addr × Obj)) (xe : Value → Shared → Prop), Takes (X.tr pn xe) W' → PassesOwn (model X.prog X.w) X.A X.env xe → DSs (X.tr pn xe) TG W' body b)
    (hd1 : (n == ("__debug__" : Str)) = false := by decide) (hd2 : (n == ("__classdict__" : Str)) = false := by decide) (hdx : (x == ("__debug__" : Str)) = false := by decide)
    (he : starEach [.Name n p2, .Name x p3] X.env = (false, eval (.Name n p2) X.env) :: starEach [.Name x p3] X.env := by rfl) (he2 : starEach [.Name x p3] X.env = (false, eval (.Name x p3) X.env) :: starEach [] X.env := by rfl) (hpl : (backTo p4 (starEach [.Name x p3] X.env)).any (·.1) = false := by rfl)
    (hsw : swapsWith (.IfExp (.Call (.Name "isinstance" p1) [.Name n p2, .Name x p3] [] p4) (.Attribute (.Name n p5) f p6) (.Constant (.str oth) jj p7) p8) (some (.Name y p9)) p10.line X.env = pure false := by rfl)
    (hat : attributeBase (.Name n p5) f X.env (eval (.Name n p5) X.env) = eval (.Name n p5) X.env := by rfl) :
    DS X TG W (.Try body [.ExceptHandler (some (.Name ke np)) (some n) [.Assign [.Name y p9] (.IfExp (.Call (.Name "isinstance" p1) [.Name n p2, .Name x p3] [] p4) (.Attribute (.Name n p5) f p6) (.Constant (.str oth) jj p7) p8) p10] pos'] [] [] pos) (sTryIx i j x f b) :=
  PS_imp (ps_try_as (tb := fun W' => rdS X.K TG W' b) (ts := fun a cls d => tAsg (tIf (tB (tCB (rIsX X.K a cls d C CK) (tCons (tVar i) (tCons (tC (.ref C)) tNil)))) (tXf a cls d C f (tVar i)) (tC (.str oth))) (gName j)) hs hf hN hi hln hk tk
    (fun W' pn xe t1 t2 => hb W' pn xe t1 t2)
    (fun a oe cls d pn hz hfl => pss_one (ps_set (X := X.suite a ((a, oe) :: pn)) hN hj hlj (pe_ifExp (pt_val (pe_callB (X := X.suite a ((a, oe) :: pn)) (call_isX T hz hfl) hgi hmi bl_isinstance (pa_cons (pe_var hi hv hd1 hd2) (pa_cons (pe_glob (v := .ref C) hgx c.mg rfl hdx) pa_nil he2) he) (by decide) (by decide) he hpl))
      (pe_xf ⟨T.ga, T.gg, T.sb, T.hd⟩ c.no hz hfl (pe_var hi hv hd1 hd2) hat) pe_str) hsw hfj)))
  fun D s H q => by
    obtain ⟨B, F, G0, G, r, i0, p⟩ := q
    refine ⟨B, F, G0, G, r, i0, ?_⟩
    unfold sTryIx at p
    cases hbr : b r with
    | st => rw [hbr] at p; exact p.elim
    | ok fl r1 => rw [hbr] at p; exact p
    | ex e r1 =>
      rw [hbr] at p
      have p2 : postS X.K TG W B F G0 G D (if e.c = x then (match r1[i]?, r1[j]?, e.fs.lookup f with
        | some a, some b, some v => if nioS a && nioS b then .ok .nx ((r1.set j (.v v)).set i .un) else .st
        | _, _, _ => .st) else .st) := p
      clear p
      split at p2
      · rename_i ex
        split at p2
        · rename_i sa sb v h1 h2 h3
          split at p2
          · rename_i hn
            rw [Bool.and_eq_true] at hn
            intro G' H' s' cls dx sm i1 er
            obtain ⟨e1, e2⟩ := er
            rw [ex, c.ns] at e1
            have e1 : cls = .ref C := e1
            subst e1
            obtain ⟨ec, efs⟩ := e
            cases efs with
            | nil => cases h3
            | cons e0 es =>
              obtain ⟨dd, vs, rfl, hG, hnm, hrv⟩ := e2
              obtain ⟨u, hu, ru⟩ := rva_lookup hnm hrv h3
              refine ⟨true, T.exm, fun _ a ha => ?_, fun h => by cases h⟩
              have hH := i1.gh _ _ hG
              have hlt : i < s'.length := by rw [← i1.len]; exact (List.getElem?_eq_some_iff.mp h1).1
              have hljt : j < r1.length := (List.getElem?_eq_some_iff.mp h2).1
              have hsi : (s'.set i (some (V.ref a)))[i]? = some (some (.ref a)) := List.getElem?_set_self hlt
              refine ⟨.ref a, hsi, ⟨dd, vs, rfl, rfl, hH, rfl, true, rfl, ?_⟩⟩
              show if true = true then _ else _
              rw [if_pos rfl]
              refine ⟨.ref a, hsi, rfl, rfl, dd, vs, u, rfl, hH, hu, ?_⟩
              have i2 := (i1.setv hljt (nioS_ne h2 hn.2) ru).un (j := i) (nioS_ne (x := sa) (by rw [List.getElem?_set_ne (Ne.symm hij)]; exact h1) hn.1)
              have es' : ((s'.set i (some (V.ref a))).set j (some u)).set i none = (s'.set j (some u)).set i none := by
                rw [List.set_comm _ _ hij, List.set_set]
              show D.nx (((s'.set i (some (V.ref a))).set j (some u)).set i none) H'
              rw [es']
              exact p2 G' H' _ sm i2
          · exact p2.elim
        · exact p2.elim
      · exact p2.elim
end
end TW

end
section
/-! what the head must find of such a class -/
namespace TW
open PySem PySem.Spec PyProof.Rows L2
def oexB (K : PySem.W.Frag) (C : Addr) : Bool := match K.lookup C with
  | some ⟨.type "type", _, .cls cd, sl⟩ => (match cd.mro, sl.toList with
    | .ref D :: tl, [_, _, _, _, some (.builtin z), _] => decide (D = C) && (decide (z = "ValueError.__new__") && (decide (cd.hasDel = false) && (decide (cd.hasDict = true) && PySem.HandSPX.refsVE tl)))
    | _, _ => false)
  | _ => false
def oexB2 (K : PySem.W.Frag) (C : Addr) : Bool := decide (PySem.W.findIn K (.ref C) "__setattr__" = some (some (.builtin "object.__setattr__"))) && (decide (PySem.W.subIn K (.ref C) (.type "BaseException") = some true) && (decide (PySem.W.typeIn K (.ref C) = some (.type "type")) && PySem.W.keepIn K (.ref C)))
theorem and_b {a b : Bool} (h : (a && b) = true) : a = true ∧ b = true := Bool.and_eq_true_iff.mp h
theorem oexB_ok {K : PySem.W.Frag} {C : Addr} (h : oexB K C = true) (h2 : oexB2 K C = true) : OexC K C := by
  obtain ⟨a1, h2⟩ := and_b h2
  obtain ⟨a2, h2⟩ := and_b h2
  obtain ⟨a3, a4⟩ := and_b h2
  refine ⟨?_, of_decide_eq_true a1, of_decide_eq_true a2, of_decide_eq_true a3, a4⟩
  unfold oexB at h
  split at h
  · rename_i dd cd sl ho
    split at h
    · rename_i D tl y0 y1 y2 y3 z y5 hm hs
      obtain ⟨b1, h⟩ := and_b h
      obtain ⟨b2, h⟩ := and_b h
      obtain ⟨b3, h⟩ := and_b h
      obtain ⟨b4, b5⟩ := and_b h
      replace b1 := of_decide_eq_true b1
      replace b2 := of_decide_eq_true b2
      replace b3 := of_decide_eq_true b3
      replace b4 := of_decide_eq_true b4
      subst b1 b2
      obtain ⟨u1, u2, u3, u4, u5, u6, u7, u8, u9, u10, u11⟩ := cd
      dsimp only at hm b3 b4
      subst hm b3 b4
      have e : sl = #[y0, y1, y2, y3, some (.builtin "ValueError.__new__"), y5] := by
        apply Array.toList_inj.mp
        exact hs
      subst e
      exact ⟨u1, u5, u4, u2, tl, u7, u8, u9, u10, dd, y0, y1, y2, y3, y5, ho, b5⟩
    · cases h
  · cases h
/-- x: the class, f: its field, ke: the class that the handler names -/
def xclsB (K : PySem.W.Frag) (x f : Str) : Bool := decide (PySem.W.nsIn K mainGlobals x = some (some (.ref (He.ga K x)))) && (oexB K (He.ga K x) && (oexB2 K (He.ga K x) && (decide (PySem.W.findIn K (.ref (He.ga K x)) "__init__" = some (some (.ref (He.ma K (He.ga K x) "__init__")))) &&
  (decide (PySem.W.typeIn K (.ref (He.ma K (He.ga K x) "__init__")) = some (.type "function")) && decide (PySem.W.findIn K (.ref (He.ga K x)) f = some none)))))
theorem xclsB_ok {K : PySem.W.Frag} {mg : Str → Option Value} {x f : Str} (hm : mg x = some (.ref (He.ga K x))) (h : xclsB K x f = true) : XCls K mg x f (He.ga K x) (He.ma K (He.ga K x) "__init__") := by
  obtain ⟨a1, h⟩ := and_b h
  obtain ⟨a2, h⟩ := and_b h
  obtain ⟨a3, h⟩ := and_b h
  obtain ⟨a4, h⟩ := and_b h
  obtain ⟨a5, a6⟩ := and_b h
  exact ⟨hm, of_decide_eq_true a1, oexB_ok a2 a3, of_decide_eq_true a4, of_decide_eq_true a5, of_decide_eq_true a6⟩
def xisB (K : PySem.W.Frag) (x ke : Str) : Bool := (PySem.W.clsIn K (He.ga K x)).isSome && (decide (PySem.W.findIn K (.ref (He.ga K x)) "__getattribute__" = some (some (.builtin "BaseException.__getattribute__"))) && (decide (PySem.W.findIn K (.ref (He.ga K x)) "__getattr__" = some none) &&
  (decide (PySem.W.subIn K (.ref (He.ga K x)) (.type "BaseException") = some true) && (decide (PySem.W.findIn K (.ref (He.ga K x)) "__class__" = some (some (.builtin "object.__class__"))) && (decide (PySem.W.specialIn K (.builtin "object.__class__") "__get__" = some (some (.builtin "getset_descriptor.__get__"))) &&
  (decide (PySem.W.takesIn K (.builtin "object.__class__") = some true) && (decide (PySem.W.mroIn K (He.ga K x) (.type "object") = some true) && (PySem.W.hasDictIn K (He.ga K x) && (decide (PySem.W.kitOne K (.ref (He.ga K x)) (.ref (He.ga K x)) = some true) &&
  decide (PySem.W.exmOne K (.ref (He.ga K x)) (.ref (He.ga K ke)) = some true))))))))))
theorem xisB_ok {K : PySem.W.Frag} {x ke : Str} (h : xisB K x ke = true) : XIs K (He.ga K x) (He.ga K ke) := by
  obtain ⟨a1, h⟩ := and_b h
  obtain ⟨a2, h⟩ := and_b h
  obtain ⟨a3, h⟩ := and_b h
  obtain ⟨a4, h⟩ := and_b h
  obtain ⟨a5, h⟩ := and_b h
  obtain ⟨a6, h⟩ := and_b h
  obtain ⟨a7, h⟩ := and_b h
  obtain ⟨a8, h⟩ := and_b h
  obtain ⟨a9, h⟩ := and_b h
  obtain ⟨a10, a11⟩ := and_b h
  exact ⟨a1, of_decide_eq_true a2, of_decide_eq_true a3, of_decide_eq_true a4, of_decide_eq_true a5, of_decide_eq_true a6, of_decide_eq_true a7, of_decide_eq_true a8, a9, of_decide_eq_true a10, of_decide_eq_true a11⟩
end TW

end
section
/-! list(reversed(x)) -/
namespace RT
open PySem PySem.Spec PyProof.Rows
section
variable {prog : Program} {w : World} {A : Around} {E : Value → Shared → Prop} {s : Shared}
theorem tw_extRev {R : Result → Shared → Prop} {it l : Addr} {items : Array Value} (hh : A.handled = none) (hit : s.heap.IsRevIter it l ((items.size : Int) - 1)) (hl : s.heap.IsList l items) (hne : l ≠ it) (hn : items.size ≤ sizeLine)
    (S : Addr) (h1 : S ≠ it) (h2 : S ≠ l) (res : Value) (c0 : Nat) (hS : s.heap.get? S = some { cls := .type "list", data := .seq #[] c0 })
    (hR : ∀ g tk acc c1, (∀ b o, b ≠ S → b ≠ it → s.heap.get? b = some o → g.get? b = some o) → g.get? S = some { cls := .type "list", dict := none, data := .seq acc c1, slots := #[] } → ItemsOf (fun i v => items[items.size - 1 - i]? = some v) acc items.size → R (.ok (.ret res)) { s with heap := g, toks := tk }) :
    wpAny (model prog w) A.in1 (Builtin.List.listExtendWith (.ref S) (.ref it) res)
      (fun fin t => match fin with | .done f => R (.ok f) t | .again c1 => c1.quiet = true ∧ codeAny (model prog w) A c1 R t) (fun e t => R (.error e) t) s := by
  have W := (Walks.listRev (prog := prog) (w := w) (A := A.in1) hh it l hne items).toS
  have nin : S ∉ [it, l] := by simp [h1, h2]
  have ty : s.TypeIs (.ref it) "list_reverseiterator" := Heap.IsRevIter.typeIs hit
  have ns : Builtin.List.listSameRef (.ref S) (.ref it) = false := by simp [Builtin.List.listSameRef, h1]
  unfold Builtin.List.listExtendWith
  refine wpAny_bind (wpAny_typeOf ty ?_)
  rw [if_neg (by rw [ns]; decide)]
  refine wpAny_bind (wpAny_pyIter_revIter hit (wpAny_bind (wpAny_holding ?_)))
  unfold Builtin.List.listLengthHint
  refine wpAny_bind (wpAny_specialOf ty nolen_lri ?_)
  show wpAny _ A.in1 (specialOf (Value.ref it) (Str.ofString "__length_hint__") >>= _) _ _ _
  refine wpAny_bind (wpAny_specialOf ty hint_lri ?_)
  generalize hid : ("list_reverseiterator.__length_hint__" : String) = nm
  wp_delta
  rw [show splitId nm = some ("list_reverseiterator", "__length_hint__") from by subst hid; decide +kernel]
  subst hid
  refine wpAny_bind (wpAny_isInstance (b := true) ty (by rw [isSubtype_type]; kernel_rfl) (wpAny_pure ?_))
  rw [if_neg (by decide)]
  have z : ((items.size : Nat) : Int) - 1 - ((0 : Nat) : Int) = (items.size : Int) - 1 := by omega
  refine wpAny_pure ⟨plainId_quiet F.plain_extend_loop _, codeAny_extend_loopS W hn S nin res items.size 0 _ #[] c0 rfl (Nat.zero_le _) ⟨Nat.zero_le _, by rw [z]; exact hit, hl⟩ hS (ItemsOf.nil _) fun t acc c1 hm hS2 hacc => ?_⟩
  rw [Moved.eq_with hm]
  refine hR t.heap t.toks acc c1 (fun b o hb hb2 e => hm.heap b o (fun hmem => ?_) e) hS2 hacc
  rcases List.mem_cons.mp hmem with q | hmem
  · exact hb q
  · exact hb2 (List.mem_singleton.mp hmem)
theorem tw_initRev {R : Result → Shared → Prop} {it l : Addr} {items : Array Value} (hh : A.handled = none) (hit : s.heap.IsRevIter it l ((items.size : Int) - 1)) (hl : s.heap.IsList l items) (hne : l ≠ it) (hn : items.size ≤ sizeLine)
    (S : Addr) (h1 : S ≠ it) (h2 : S ≠ l) (hS : s.heap.get? S = some { cls := .type "list", data := .seq #[] })
    (hR : ∀ g tk acc c1, (∀ b o, b ≠ S → b ≠ it → s.heap.get? b = some o → g.get? b = some o) → g.get? S = some { cls := .type "list", dict := none, data := .seq acc c1, slots := #[] } → ItemsOf (fun i v => items[items.size - 1 - i]? = some v) acc items.size → R (.ok (.ret .none)) { s with heap := g, toks := tk }) :
    wpAny (model prog w) A.in1 (Builtin.«list.__init__» ⟨[.ref S, .ref it], []⟩)
      (fun fin t => match fin with | .done f => R (.ok f) t | .again c1 => c1.quiet = true ∧ codeAny (model prog w) A c1 R t) (fun e t => R (.error e) t) s := by
  show wpAny _ _ (do let old ← Builtin.List.listItems (.ref S); Builtin.List.listUpdate (.ref S) (fun _ => #[]); letGo old.toList.reverse; Builtin.List.listExtendWith (.ref S) (.ref it) .none) _ _ s
  refine wpAny_bind ?_
  unfold Builtin.List.listItems
  refine wpAny_bind (wpAny_seqItems hS rfl (wpAny_pure ?_))
  show wpAny _ _ (updateSeq S (fun _ => #[]) >>= fun _ => letGo (#[] : Array Value).toList.reverse >>= fun _ => Builtin.List.listExtendWith (.ref S) (.ref it) .none) _ _ s
  have up := Heap.get?_update_self (Obj.mapSeq (fun _ => (#[] : Array Value))) hS rfl
  have oth : ∀ b o, b ≠ S → s.heap.get? b = some o → (s.heap.update S (Obj.mapSeq (fun _ => (#[] : Array Value)))).get? b = some o := fun b o hb e => (Heap.get?_update_other _ _ (Ne.symm hb)).trans e
  refine wpAny_bind (wpAny_updateSeq hS rfl (wpAny_bind (wpAny_letGo ?_)))
  obtain ⟨oi, ei, ri⟩ := hit
  obtain ⟨ol, el, rl⟩ := hl
  exact tw_extRev (s := { s with heap := s.heap.update S (Obj.mapSeq (fun _ => (#[] : Array Value))) }) hh ⟨oi, oth _ _ (Ne.symm h1) ei, ri⟩ ⟨ol, oth _ _ (Ne.symm h2) el, rl⟩ hne hn S h1 h2 .none _ up
    fun g tk acc c1 hk hS2 hacc => hR g tk acc c1 (fun b o hb hb2 e => hk b o hb hb2 (oth b o hb e)) hS2 hacc
theorem tw_callRev {it l : Addr} {items : Array Value} {Q : Value → Shared → Prop} (hh : A.handled = none) (hit : s.heap.IsRevIter it l ((items.size : Int) - 1)) (hl : s.heap.IsList l items) (hne : l ≠ it) (hn : items.size ≤ sizeLine)
    (hQ : ∀ g tk acc c1, (∀ b o, b ≠ it → s.heap.get? b = some o → g.get? b = some o) → g.get? s.heap.objs.size = some { cls := .type "list", dict := none, data := .seq acc c1, slots := #[] } → ItemsOf (fun i v => items[items.size - 1 - i]? = some v) acc items.size → Q (.ref s.heap.objs.size) { s with heap := g, toks := tk }) :
    wpAny (model prog w) A (call (.type "list") [.ref it]) Q E s := by
  refine callType_codes (Q₁ := fun obj t => obj = .ref s.heap.objs.size ∧ t = { s with heap := s.heap.push { cls := .type "list", data := .seq #[] } }) F.called_list (F.typeCall_list_1 _) F.entry_list_init (code_list_new _ ⟨rfl, rfl⟩) fun obj t ht => ?_
  obtain ⟨rfl, rfl⟩ := ht
  have hS : (s.heap.push { cls := .type "list", data := .seq #[] }).get? s.heap.objs.size = some { cls := .type "list", data := .seq #[] } := Heap.get?_push_size _ rfl
  obtain ⟨oi, ei, ri⟩ := id hit
  obtain ⟨ol, el, rl⟩ := id hl
  refine ⟨⟨_, hS, rfl⟩, F.args_list_init_2 _ _, tw_initRev (A := A.in1) (s := { s with heap := s.heap.push { cls := .type "list", data := .seq #[] } }) hh ⟨oi, Heap.get?_push_of_some _ ei, ri⟩ ⟨ol, Heap.get?_push_of_some _ el, rl⟩ hne hn _
    (Nat.ne_of_gt (Heap.lt_size ei)) (Nat.ne_of_gt (Heap.lt_size el)) hS fun g tk acc c1 hk hS2 hacc => ?_⟩
  exact ⟨rfl, hQ g tk acc c1 (fun b o hb e => hk b o (Nat.ne_of_lt (Heap.lt_size e)) hb (Heap.get?_push_of_some _ e)) hS2 hacc⟩
end
end RT

end
section
/-! x[::-1] of a tuple; both over the TW layer -/
namespace HT
open PySem PySem.Spec PyProof.Rows
section
variable {prog : Program} {w : World} {A : Around} {E : Value → Shared → Prop} {s : Shared}
theorem tw_applied {sl : Addr} {vl vu vs : Value} {n : Nat} {Q : Int × Int × Nat → Shared → Prop} (hs : s.heap.IsSliceOf sl vl vu vs) (pl : IsPart vl none) (pu : IsPart vu none) (ps : IsPart vs (some (-1)))
    (h : Q ((n : Int) - 1, -1, n) s) : wpAny (model prog w) A (Builtin.Slice.sliceApplied (.ref sl) (pure (n : Int))) Q E s := by
  obtain ⟨os, hos, hcs, hds⟩ := id hs
  unfold Builtin.Slice.sliceApplied Builtin.Slice.sliceFields
  refine wpAny_bind (wpAny_bind (wpAny_field hos hds (x := vl) rfl (wpAny_bind (wpAny_field hos hds (x := vu) rfl (wpAny_bind (wpAny_field hos hds (x := vs) rfl (wpAny_pure ?_)))))))
  refine wpAny_bind (slicePart_ ps ?_)
  show wpAny _ _ (if ((-1 : Int) == 0) = true then _ else _) _ _ s
  rw [if_neg (by decide)]
  refine wpAny_bind (slicePart_ pl (wpAny_bind (slicePart_ pu (wpAny_bind (wpAny_pure ?_)))))
  have ea : Builtin.Slice.sliceAdjust none none (-1) (n : Int) = ((n : Int) - 1, -1) := by
    unfold Builtin.Slice.sliceAdjust
    simp
  have eb : Builtin.Slice.slicePlaces ((n : Int) - 1) (-1) (-1) = n := by
    unfold Builtin.Slice.slicePlaces
    have h1 : ¬ ((-1 : Int) > 0) := by omega
    rw [if_neg h1]
    by_cases hn : (n : Int) - 1 > -1
    · rw [if_pos hn, show (-(-1) : Int) = 1 by omega, Int.ediv_one]
      omega
    · rw [if_neg hn]
      omega
  show wpAny _ _ (match Builtin.Slice.sliceAdjust none none (-1) (n : Int) with | (lo, hi) => pure (lo, (-1 : Int), Builtin.Slice.slicePlaces lo hi (-1))) _ _ s
  rw [ea]
  show wpAny _ _ (pure ((n : Int) - 1, (-1 : Int), Builtin.Slice.slicePlaces ((n : Int) - 1) (-1) (-1))) _ _ s
  rw [eb]
  exact wpAny_pure h
theorem tw_pick (xs : Array Value) : ((List.range xs.size).filterMap fun (m : Nat) => xs[((xs.size : Int) - 1 + (m : Int) * -1).toNat]?).toArray = xs.toList.reverse.toArray := by
  congr 1
  have e : (fun (m : Nat) => xs[((xs.size : Int) - 1 + (m : Int) * -1).toNat]?) = (fun k => xs[k]?) ∘ fun (m : Nat) => ((xs.size : Int) - 1 + (m : Int) * -1).toNat := rfl
  rw [e, ← List.filterMap_map]
  have e2 : (List.range xs.size).map (fun (m : Nat) => ((xs.size : Int) - 1 + (m : Int) * -1).toNat) = (List.range xs.size).reverse := by
    rw [← PySem.W.krv_range]
    apply List.map_congr_left
    intro k hk
    have := List.mem_range.mp hk
    omega
  rw [e2, List.filterMap_reverse, PySem.W.krv_all]
theorem tw_getRev {t sl : Addr} {items : Array Value} {vl vu vs : Value} {Q : Value → Shared → Prop} (ht : IsTup s.heap t items) (hs : s.heap.IsSliceOf sl vl vu vs) (pl : IsPart vl none) (pu : IsPart vu none) (ps : IsPart vs (some (-1)))
    (h : Q (.ref s.heap.objs.size) { s with heap := s.heap.push { cls := .type "tuple", data := .seq items.toList.reverse.toArray } }) (hsz : items.size ≤ sizeLine) : wpAny (model prog w) A (getItem (.ref t) (.ref sl)) Q E s := by
  have hz : sizeOk (.seq items.toList.reverse.toArray) := by
    show items.toList.reverse.toArray.size ≤ sizeLine
    simpa using hsz
  obtain ⟨os, hos, hcs, hds⟩ := id hs
  have hTs : s.TypeIs (.ref sl) "slice" := ⟨os, hos, hcs⟩
  unfold getItem
  try with_reducible refine wpAny_holding ?_
  first | refine wpAny_bind (wpAny_pure ?_) | skip
  refine wpAny_bind (wpAny_sequenceKey ht.typeIs (by decide) (wpAny_bind (wpAny_callSpecial?_slot (name := Str.ofString "__getitem__") ht.typeIs PyProof.Rows.slot_tuple_getitem
    (wpAny_call_entry PyProof.Rows.slot_tuple_getitem ht.typeIs entry_tuple_getitem ?_ (args_tuple_getitem _ _)))))
  show wpAny _ _ (Builtin.Tuple.tupleItemsOf (.ref t) >>= _) _ _ s
  refine wpAny_bind (tupleItemsOf_ ht (wpAny_bind (wpAny_typeOf hTs ?_)))
  rw [if_pos (by decide)]
  refine wpAny_bind (tw_applied hs pl pu ps ?_)
  have hno : ¬ ((((items.size : Int) - 1) == 0 && (-1 : Int) == 1 && items.size == items.size) = true) := by
    simp
  show wpAny _ _ (if (((items.size : Int) - 1) == 0 && (-1 : Int) == 1 && items.size == items.size) = true then _ else _) _ _ s
  rw [if_neg hno, tw_pick]
  first
    | exact wpAny_bind (m := Builtin.Tuple.tupleExact _) (wpAny_newObj_type (wpAny_pure ⟨_, rfl, wpAny_pure h⟩) hz)
    | exact wpAny_bind (m := Builtin.Tuple.tupleExact _) (wpAny_newObj_type (wpAny_bind (wpAny_pure (wpAny_pure ⟨_, rfl, wpAny_pure h⟩))) hz)
    | exact wpAny_bind (wpAny_bind (m := Builtin.Tuple.tupleExact _) (wpAny_newObj_type (wpAny_pure (wpAny_pure ⟨_, rfl, wpAny_pure h⟩)) hz))
    | exact wpAny_bind (wpAny_bind (m := Builtin.Tuple.tupleExact _) (wpAny_newObj_type (wpAny_pure ⟨_, rfl, wpAny_pure h⟩) hz))
end
end HT

end
section
namespace TW
open PySem PySem.Spec PyProof.Rows L2
def tRevT (K : PySem.W.Frag) (te : TE) : TE := fun σ H Q => te σ H fun x H1 => ∃ a xs, x = .ref a ∧ SqT K H1 a xs ∧ ∀ p, H1 p = none → Q (.ref p) (upd H1 p (.tup xs.reverse))
theorem pe_revT {X : Cx} {e : Expr} {te : TE} {k : Nat} {p1 p2 p3 pos : Pos} (he : PE X e te) : PE X (.Subscript e (.Slice none none (some (.UnaryOp .USub (.Constant (.int 1) k p1) p2)) p3) pos) (tRevT X.K te) := by
  refine ⟨fun pins s σ H Q I h => Subscript_ (thn (he.run pins s σ H _ I h) fun v s1 hh => ?_)⟩
  obtain ⟨x, H1, I1, r1, a, xs, ex, hx, q⟩ := hh
  subst ex
  cases r1
  have step : PO X (some (.UnaryOp .USub (.Constant (.int 1) k p1) p2)) (tPart (tUn (rU fun i => .int (-i)) (tC (.int 1)))) := po_some (pe_un un_neg pe_int)
  refine wpAny_Slice (thn (po_none.run pins s1 σ H1 (fun o H2 => o = none ∧ H2 = H1) I1 ⟨rfl, rfl⟩) fun vl s2 hl => ?_)
  obtain ⟨l, H2, I2, pl, rfl, rfl⟩ := hl
  refine thn (po_none.run pins s2 σ H2 (fun o H3 => o = none ∧ H3 = H2) I2 ⟨rfl, rfl⟩) fun vu s3 hu => ?_
  obtain ⟨u, H3, I3, pu, rfl, rfl⟩ := hu
  refine thn (step.run pins s3 σ H3 (fun o H4 => o = some (-1) ∧ H4 = H3) I3 ⟨1, rfl, -1, rfl, rfl, rfl⟩) fun vs s4 hs => ?_
  obtain ⟨o, H4, I4, ps, rfl, rfl⟩ := hs
  have I5 : Inv X pins σ H4 { s4 with heap := s4.heap.push { cls := .type "slice", data := .fields #[vl, vu, vs] } } := I4.kept (t' := s4.toks) fun b ob q => Heap.get?_push_of_some _ q
  obtain ⟨its, r, ht, hz⟩ := I5.tuple hx
  have hlen : its.toArray.size = xs.length := by rw [List.size_toArray]; exact r.length.symm
  show wpAny (model X.prog X.w) X.A (subscriptTail e (.Slice none none (some (.UnaryOp .USub (.Constant (.int 1) k p1) p2)) p3) (.ref a) (.ref s4.heap.objs.size)) (EP X pins σ Q) X.xe { s4 with heap := s4.heap.push { cls := .type "slice", data := .fields #[vl, vu, vs] } }
  refine tail_any (ops := [.ref a, .ref s4.heap.objs.size]) ht.typeIs (PyProof.Rows.slot_tuple_getitem.lookup) ?_ (by with_unfolding_all rfl)
  refine HT.tw_getRev ht (Heap.IsSliceOf.new _ vl vu vs) pl pu ps ?_ (by rw [hlen]; exact hz)
  refine ⟨.ref _, _, I5.laid (t' := s4.toks) (o := .tup xs.reverse) (fun b ob q => Heap.get?_push_of_some _ q) (Nat.le_refl _) ?_, rfl, q _ (I5.hok.fresh (Nat.le_refl _))⟩
  refine ⟨by rw [List.length_reverse]; exact hz, its.reverse, r.reverse, ?_⟩
  exact IsTup.new _ _
def tLstRev (K : PySem.W.Frag) (te : TE) : TE := fun σ H Q => te σ H fun v H1 => ∃ (a : Addr) (xs : List V), v = .ref a ∧ SqL K H1 a xs ∧ ∀ q, H1 q = none → Q (.ref q) (upd H1 q (.lst xs.reverse))
theorem pe_listRev {X : Cx} {e : Expr} {te : TE} {p p2 pos pos2 : Pos} (hc : X.calm = true) (hg : Gl X "list") (hm : X.mg "list" = none) (hg2 : Gl X "reversed") (hm2 : X.mg "reversed" = none) (he : PE X e te)
    (hs : starEach [e] X.env = (false, eval e X.env) :: starEach [] X.env := by rfl)
    (hs2 : starEach [.Call (.Name "reversed" p2) [e] [] pos2] X.env = (false, eval (.Call (.Name "reversed" p2) [e] [] pos2) X.env) :: starEach [] X.env := by rfl) :
    PE X (.Call (.Name "list" p) [.Call (.Name "reversed" p2) [e] [] pos2] [] pos) (tLstRev X.K te) := by
  refine ⟨fun pins s σ H Q I h => ?_⟩
  refine Call_ (ld_blt I hg hm boot_list (PyProof.Rows.callWith_type1 (args_cons (Call_ (ld_blt I hg2 hm2 PyProof.Rows.boot_reversed (PyProof.Rows.callWith_type1 (args_cons (thn (he.run pins s σ H _ I h) fun u s1 hh => args_nil ?_) hs) hs rfl))) hs2) hs2 rfl))
  obtain ⟨v, H1, I1, r1, a, xs, ev, hq, q⟩ := hh
  subst ev
  obtain rfl : u = Value.ref a := r1
  obtain ⟨its, rv, p', hz⟩ := I1.list hq
  refine call_reversed_list p'.isList (args_nil ?_)
  have hl := p'.isList
  obtain ⟨ol, hol, _⟩ := id hl
  have hne : a ≠ s1.heap.objs.size := Nat.ne_of_lt (Heap.lt_size hol)
  have hn : its.toArray.size ≤ sizeLine := by rw [List.size_toArray, ← rv.length]; exact hz
  refine RT.tw_callRev (s := { s1 with heap := s1.heap.push (revObj a ((its.toArray.size : Int) - 1)) }) (I1.ok.hd hc) ⟨_, Heap.get?_push_size _ rfl, rfl, rfl⟩ (hl.push _) hne hn fun g tk acc c1 hk hg hi => ?_
  have k1 : ∀ b o, s1.heap.get? b = some o → g.get? b = some o := fun b o e => hk b o (Nat.ne_of_lt (Heap.lt_size e)) (Heap.get?_push_of_some _ e)
  have sz : s1.heap.objs.size ≤ (s1.heap.push (revObj a ((its.toArray.size : Int) - 1))).objs.size := by
    rw [Heap.size_push]
    exact Nat.le_succ _
  refine ⟨.ref _, upd H1 _ (.lst xs.reverse), I1.laid (t' := tk) k1 sz (show ObjOk X.prog X.w _ _ _ (.lst xs.reverse) from ⟨by rw [List.length_reverse]; exact hz, acc.toList, c1, RT.vals_rev rv hi, ?_⟩), rfl, q _ (I1.hok.fresh sz)⟩
  rw [Array.toArray_toList]
  exact hg
theorem RvA.rev {K : PySem.W.Frag} {G : Hp} : ∀ {ds : List PyData} {xs : List V}, RvA K G ds xs → RvA K G ds.reverse xs.reverse
  | [], _, h => by cases h; exact rfl
  | d :: ds, _, ⟨x, r, h1, h2, h3⟩ => by
    subst h1
    rw [List.reverse_cons, List.reverse_cons]
    exact (RvA.rev h3).app (RvA.one h2)
def dRevT (d : M PyData) : M PyData := d.bind fun x => match x with
  | .tuple ds => .ret (.tuple ds.reverse)
  | _ => .st
def xRevL (d : M PyData) : M Rz := d.bind fun x => match x with
  | .list ds => .ret (.l ds.reverse)
  | _ => .st
section
variable {X : Cx} {TG : List TbK} {W : WX} {e : Expr} {d : M PyData} {k : Nat} {p p1 p2 p3 pos pos2 : Pos}
theorem de_revT (he : DE X TG W e d) : DE X TG W (.Subscript e (.Slice none none (some (.UnaryOp .USub (.Constant (.int 1) k p1) p2)) p3) pos) (dRevT d) := PE_imp (pe_revT he) fun s H Q q => by
  obtain ⟨B, F, G0, G, r, i, p⟩ := rd_bind (R1 := RE X.K) q
  refine ⟨B, F, G0, G, r, i, post_imp (fun x H1 q => ?_) _ p⟩
  obtain ⟨B, F, G0, G1, r1, a, i1, v1, p1⟩ := q
  cases a with
  | tuple ds =>
    have v1 : Rv X.K G1 (.tuple ds) x := v1
    obtain ⟨b, us, rfl, h1, h2⟩ := v1
    refine ⟨b, us, rfl, same_t i1.gh h1, fun c hc => ?_⟩
    have g := Grow.new i1.gh hc (.tup us.reverse) (fun _ z => by cases z)
    exact p1 _ _ _ g.g (i1.grow g) ⟨c, _, rfl, .inl (.inl upd_same), (RvA.mono g.g _ _ h2).rev⟩
  | none => exact p1.elim
  | bool _ => exact p1.elim
  | int _ => exact p1.elim
  | str _ => exact p1.elim
  | list _ => exact p1.elim
  | dict _ => exact p1.elim
theorem dx_listRev (hc : X.calm = true) (hg : Gl X "list") (hm : X.mg "list" = none) (hg2 : Gl X "reversed") (hm2 : X.mg "reversed" = none) (he : DE X TG W e d) (hs : starEach [e] X.env = (false, eval e X.env) :: starEach [] X.env := by rfl)
    (hs2 : starEach [.Call (.Name "reversed" p2) [e] [] pos2] X.env = (false, eval (.Call (.Name "reversed" p2) [e] [] pos2) X.env) :: starEach [] X.env := by rfl) : DX X TG W (.Call (.Name "list" p) [.Call (.Name "reversed" p2) [e] [] pos2] [] pos) (xRevL d) := PE_imp (pe_listRev hc hg hm hg2 hm2 he hs hs2) fun s H Q q => by
  obtain ⟨B, F, G0, G, r, i, p⟩ := rdX_bind (R1 := RE X.K) q
  refine ⟨B, F, G0, G, r, i, post_imp (fun x H1 q => ?_) _ p⟩
  obtain ⟨B, F, G0, G1, r1, a, i1, v1, p1⟩ := q
  cases a with
  | list ds =>
    have v1 : Rv X.K G1 (.list ds) x := v1
    obtain ⟨b, us, rfl, h1, h2⟩ := v1
    refine ⟨b, us, rfl, .inl (.inl (i1.gh _ _ h1)), fun c hc => ?_⟩
    obtain ⟨i2, fr⟩ := i1.newl hc h2.rev
    exact p1 _ _ _ (.refl _) i2 fr
  | none => exact p1.elim
  | bool _ => exact p1.elim
  | int _ => exact p1.elim
  | str _ => exact p1.elim
  | tuple _ => exact p1.elim
  | dict _ => exact p1.elim
/-- d[k] of a dict with text keys -/
def fDix (kvs : List (PyData × PyData)) (b : PyData) : Option PyData := (keyD b).bind (getK kvs)
def dDix (d k : M PyData) : M PyData := d.bind fun a => match gKd a with
  | some kvs => k.bind fun b => .opt (fDix kvs b)
  | none => .st
theorem de_dix {o f : Expr} {dk : M PyData} (hu : X.A.units + 1 < cLine) (ho : DE X TG W o d) (hf : DE X TG W f dk) (hs : NoSl f) : DE X TG W (.Subscript o f pos) (dDix d dk) := PE_imp (pe_dget hu ho hf hs) fun s H Q q => by
  obtain ⟨B, F, G0, G, z, i, p⟩ := rd_bind (R1 := RE X.K) q
  refine ⟨B, F, G0, G, z, i, post_imp (fun v H1 q => ?_) _ p⟩
  obtain ⟨B, F, G0, G1, r1, a, i1, v1, p1⟩ := q
  cases hk : gKd a with
  | none => rw [hk] at p1; exact p1.elim
  | some kvs =>
    rw [hk] at p1
    obtain ⟨D, ks, rfl, hD, rv⟩ := gKd_rv v1 hk
    refine ⟨B, F, G0, G1, r1, i1, post_imp (fun y H2 q => ?_) _ (post_bind (R1 := RE X.K) _ p1)⟩
    obtain ⟨G2, r2, b, e2, i2, v2, p2⟩ := q
    cases hq : keyD b with
    | none =>
      unfold fDix at p2
      rw [hq] at p2
      exact p2.elim
    | some q =>
      have ey := keyD_v v2 hq
      rcases rvD_get q (RvD.mono e2 _ _ rv) with ⟨g1, _⟩ | ⟨d', v', g1, g2, g3⟩
      · unfold fDix at p2
        rw [hq, Option.bind_some, g1] at p2
        exact p2.elim
      · unfold fDix at p2
        rw [hq, Option.bind_some, g1] at p2
        exact ⟨D, v', rfl, .inl ⟨ks, q, .inl (i2.gh _ _ (e2 _ _ hD)), ey, g2.symm⟩, p2 G2 H2 _ (.refl _) i2 g3⟩
end
end TW

end
section
/-! x(lambda: body), x a def of ours: the lambda's code object stands in the def's table, all else is as it was -/
namespace TW
open PySem PySem.Spec PyProof.Rows L2 LamX
/-- the heap behind the making of a lambda -/
def Lx (P : Addr) (q : Str) (H H1 : Hp) : Prop := H1 = H ∨ ∃ (ps more : Array Value) (c : Addr), H P = some (.tbl ps) ∧ H c = none ∧ H1 = upd (upd H P (.tbl (ps ++ more))) c (CodeO c q)
section
variable {X : Cx} {pins : List (Addr × Obj)} {σ : L2.St} {H : Hp} {s : Shared}
theorem tw_make {c P : Addr} {params : Arguments} {body : Expr} {scope : Scope} {pos : Pos} {E Q : Value → Shared → Prop} (I : Inv X pins σ H s) (TB : TabB X.base X.mg c P) (hcode : X.env.code = .ref c)
    (hT : TabQ H ⟨P, some (X.env.qual ++ "<lambda>")⟩) (hdef : defaultsOf params X.env = ([], [])) (hfree : ∀ y ∈ scope.names, y.2 = .free → ∃ c, X.env.cells.lookup y.1 = some c)
    (h : ∀ (f c1 : Addr) (pm ctv : Value) (H1 : Hp) (t : Shared), Inv X pins σ H1 t → Lx P (X.env.qual ++ "<lambda>") H H1 → TabQ H1 ⟨P, some (X.env.qual ++ "<lambda>")⟩ →
      t.heap.get? f = some (PySem.W.kla_obj "<lambda>" (X.env.qual ++ "<lambda>") params body scope (cloFrom X.env.cells scope.names []) pm c1 ctv) → H1 f = none → f ∉ frs X.stack → H1 c1 = some (CodeO c1 (X.env.qual ++ "<lambda>")) → Q (.ref f) t) :
    wpAny (model X.prog X.w) X.A (eval (.Lambda params body scope pos) X.env) Q E s := by
  obtain ⟨ps, hP, ht, ha⟩ := hT
  have hP : H P = some (.tbl ps) := hP
  have ha := ha _ rfl
  have bP : s.heap.BuiltinsAt X.mg P := TB.bm.keeps I.bk
  have oP : s.heap.get? P = some { cls := .none, data := .fields ps } := I.hok P _ hP
  have nofr : ∀ f, s.heap.objs.size ≤ f → f ∉ frs X.stack := fun f hf z => by
    rcases List.mem_cons.mp (I.stkSub _ z) with e | e
    · exact absurd (Nat.lt_of_lt_of_le I.lt hf) (by rw [e]; exact Nat.lt_irrefl _)
    · exact I.nofs hf e
  refine PySem.W.kla_eval hdef ?_
  cases hc : codeAmong pos ps.toList with
  | some cv =>
    obtain ⟨c1, rfl, hco⟩ := ha pos cv hc
    refine PySem.W.kla_makeFunctionHit (mg := X.mg) (c := c) (P := P) (ps := ps) (closure_ok hfree) I.ok.glob (I.mod.glob.keeps I.bk) hcode (TB.code.keeps I.bk) oP ht hc bP fun ctv g tk hx hsz => ?_
    exact h g.objs.size c1 _ ctv H _ (I.kept fun b o e => Heap.get?_push_of_some _ (hx b o e)) (.inl rfl) ⟨ps, hP, ht, fun q hq => by cases hq; exact ha⟩ (Heap.get?_push_size _ rfl) (I.hok.fresh hsz) (nofr _ hsz) hco
  | none =>
    refine PySem.W.kla_makeFunction (mg := X.mg) (c := c) (P := P) (ps := ps) (closure_ok hfree) I.ok.glob (I.mod.glob.keeps I.bk) hcode (TB.code.keeps I.bk) oP ht hc TB.gP bP fun c1 ctv g tk hx hge hlt hrec htb => ?_
    obtain ⟨c2, oc, vs, t, e2, hoc, hd, hv⟩ := hrec
    cases e2
    have hsz : s.heap.objs.size ≤ g.objs.size := Nat.le_trans hge (Nat.le_of_lt hlt)
    have nC : H c1 = none := I.hok.fresh hge
    have cP : P ≠ c1 := ne_of_none hP nC
    have J := inv_table (t' := tk) (q := X.env.qual ++ "<lambda>") (more := #[rawInt pos.line, rawInt pos.col, .ref c1]) (h' := g.push (PySem.W.kla_obj "<lambda>" (X.env.qual ++ "<lambda>") params body scope (cloFrom X.env.cells scope.names []) ((X.mg "__name__").getD .none) c1 ctv)) I hP
      (fun b o hb e => Heap.get?_push_of_some _ (hx b o hb e)) (Heap.get?_push_of_some _ htb) hge ⟨oc, vs, t, Heap.get?_push_of_some _ hoc, hd, hv⟩
    have eL : (ps ++ #[rawInt pos.line, rawInt pos.col, .ref c1]).toList = ps.toList ++ [rawInt pos.line, rawInt pos.col, .ref c1] := by simp
    refine h g.objs.size c1 _ ctv _ _ J (.inr ⟨ps, _, c1, hP, nC, rfl⟩) ⟨_, by show upd (upd H P _) c1 _ P = _; rw [upd_ne cP, upd_same], by rw [eL]; exact PySem.TriplesOk_snoc _ _ _ _ ht, fun q hq p1 cv hcv => ?_⟩ (Heap.get?_push_size _ rfl) ?_ (nofr _ hsz) upd_same
    · cases hq
      rw [eL] at hcv
      rcases among_app _ ht hcv with z | z
      · obtain ⟨c0, e1, e2⟩ := ha p1 cv z
        refine ⟨c0, e1, ?_⟩
        rw [upd_ne (ne_of_none e2 nC), upd_ne fun x => by rw [x, hP] at e2; exact codeO_ne _ (Option.some.inj e2).symm]
        exact e2
      · exact ⟨c1, z, upd_same⟩
    · have n1 : g.objs.size ≠ c1 := Nat.ne_of_gt hlt
      have n2 : g.objs.size ≠ P := Nat.ne_of_gt (Nat.lt_of_lt_of_le (Heap.lt_size oP) hsz)
      rw [upd_ne n1, upd_ne n2]
      exact I.hok.fresh hsz
end
/-- the state goes over it -/
theorem SR.lam {K : PySem.W.Frag} {TG : List TbK} {B : List (Nat × Addr)} {F G0 G H H1 : Hp} {r : List Sl} {s : L2.St} {P : Addr} {q : Str} (i : SR K TG B F G0 G H r s) (hP : (⟨P, some q⟩ : TbK) ∈ TG ∧ ∀ z ∈ TG, z.P = P → z.q = some q) (l : Lx P q H H1) (t : TabQ H1 ⟨P, some q⟩) : SR K TG B F G0 G H1 r s := by
  rcases l with rfl | ⟨ps, more, c, h1, h2, rfl⟩
  · exact i
  have keep : ∀ b u, H b = some u → (∀ ps, u ≠ .tbl ps) → upd (upd H P (.tbl (ps ++ more))) c (CodeO c q) b = some u := fun b u e n => by
    rw [upd_ne (ne_of_none e h2), upd_ne fun x => by rw [x, h1] at e; exact n ps (Option.some.inj e).symm]
    exact e
  refine ⟨i.len, fun b u e => keep b u (i.gh _ _ e) fun p z => i.gt b p (by rw [e, z]), fun b u e => keep b u (i.fh _ _ e) fun p z => i.ft b p (by rw [e, z]), i.g0, i.fg, i.gt, i.ft, fun Z hZ => ?_, i.vals, fun j ds e => ?_, i.sep, i.ios⟩
  · by_cases z : Z.P = P
    · have e : Z = ⟨P, some q⟩ := by
        obtain ⟨a, b⟩ := Z
        have z : a = P := z
        have y : b = some q := hP.2 _ hZ z
        rw [z, y]
      rw [e]
      exact t
    · exact (i.tb Z hZ).keep (fun ps' e => by rw [upd_ne (ne_of_none e h2), upd_ne z]; exact e) fun c0 q0 e => keep c0 _ e fun _ => codeO_ne _
  · obtain ⟨a, xs, e1, e2, e3⟩ := i.owns j ds e
    exact ⟨a, xs, e1, keep a _ e2 (fun _ z => by cases z), e3⟩
/-- x(lambda: body) -/
def tLamQ (P : Addr) (q : Str) (TT : (XK → Hp → VK → Prop) → Hp → VK → Prop) (t : XK → TE) : TE := fun σ H Q => TabQ H ⟨P, some q⟩ ∧ ∀ H1, Lx P q H H1 → TabQ H1 ⟨P, some q⟩ → TT (fun E H' Q' => t E σ H' Q') H1 Q
section
variable {X : Cx}
theorem pe_lamQ {TT : (XK → Hp → VK → Prop) → Hp → VK → Prop} {x a : Str} {g c P : Addr} {k : Nat} {pg : Arguments} {bg : List Stmt} {sg : Scope} {dV kV doc pm cdv ct oc : Value} {an od : Option Addr} {osl : Array (Option Value)} {Ng : List Str}
    {params : Arguments} {body : Expr} {scope : Scope} {t : XK → TE} {p lpos pos : Pos} (hg : Gl X x) (hm : X.mg x = some (.ref g)) (hk : PySem.W.keepIn X.K (.ref g) = true)
    (lk : X.K.lookup g = some ⟨oc, od, .func (PySem.W.fnOf x x pg bg sg dV kV doc pm an cdv ct), osl⟩) (hcg : PySem.W.codeIn X.K cdv x = true) (hb : L2.Binds X.K (PySem.W.fnOf x x pg bg sg dV kV doc pm an cdv ct) [a] []) (Sg : FnScope Ng [a] sg) (hNg : Ng[0]? = some a) (hva : Vis sg a)
    (hG : GivesTo X Ng x sg g cdv bg a (X.env.qual ++ "<lambda>") TT)
    (TB : TabB X.base X.mg c P) (hcode : X.env.code = .ref c) (hr : Room (k + 2) X.A) (L : LamS X.env.scope scope) (hdef : defaultsOf params X.env = ([], []))
    (hbind : ∀ (q : Str) (cl : List (Str × Addr)) (pm cv ctv : Value), bindArgs (PySem.W.kla_fn "<lambda>" q params body scope cl pm cv ctv) ⟨[], []⟩ = pure [])
    (hbody : ∀ (A : Around) (outer : List Env) (s : Shared) (H : Hp) (E : XK) (f c' : Addr), Room k (A.deeper (lamEnv X scope s.heap.objs.size f c')) → PE (lamCx X A outer s H E scope f c') body (t E))
    (hdb : (x == ("__debug__" : Str)) = false := by decide) (hd : (a == ("__debug__" : Str)) = false := by decide) (hcd : (a == ("__classdict__" : Str)) = false := by decide) :
    PE X (.Call (.Name x p) [.Lambda params body scope lpos] [] pos) (tLamQ P (X.env.qual ++ "<lambda>") TT t) := by
  refine ⟨fun pins s σ H Q I h => wpAny_Call_Name_kw (ld_glob I hg hm (PySem.W.callWith_K (h₀ := X.base) I.ok.mod.kin hk ?_ (by rfl) (by rfl)) hdb)⟩
  obtain ⟨hT, h⟩ := h
  show wpAny _ _ (spliced ((false, eval (.Lambda params body scope lpos) X.env) :: backTo pos (starEach [] X.env))) _ _ s
  refine Calls.spliced_cons (tw_make I TB hcode hT hdef (L.has I.ok) fun f c1 pm1 ctv H1 s1 I1 lx T1 hf hfn hfr hco => Calls.spliced_nil ⟨I1.kIn, ?_⟩)
  have run : codeAny (model X.prog X.w) X.A (.call (.ref g) ⟨[.ref f], []⟩) (CR C8.CX0 X.stack X.prog X.w H1 s1 Q C8.E0) s1 := run_ofS (N := Ng) (ps := [a]) (us := [.ref f]) (vs := [.ref f]) lk hcg Sg hr I1.env0 (hb s1 [.ref f] I1.kIn rfl) (.cons rfl .nil) rfl fun hr1 => by
    obtain ⟨t1, ht, hq⟩ := hG f c1 s1 H1 Q (fun E H' Q' => t E σ H' Q') (fun W pn xe E p1 p2 tk hW => pe_act (i := 0) I1 L hf hfn hfr (hbind _ _ _ _ _) tk hW hr1 (fun A outer s H hr2 => hbody A outer s H E f c1 hr2) hNg hva hd hcd) hco (h H1 lx T1)
    exact ⟨t1, ht.nox, hq⟩
  refine wpAny_call (codeAny_mono run fun r s2 hq => ?_)
  cases r with
  | error e => exact (show False from hq).elim
  | ok fl =>
    cases fl with
    | ret u => exact I1.after hq
    | next => exact False.elim hq
    | brk => exact False.elim hq
    | cont => exact False.elim hq
end
end TW

end
section
/-! told(lambda: d), where told is: try: found = a() / except K as n: found = ['tag', n.f] if isinstance(n, C) else 'oth' / return found -/
namespace TW
open PySem PySem.Spec PyProof.Rows L2 LamX
/-- what the def makes of the lambda's reading -/
def TTtag (C : Addr) (f tag : Str) : (XK → Hp → VK → Prop) → Hp → VK → Prop := fun tl H Q =>
  tl (fun cls dx H1 => cls = .ref C ∧ ∃ (dd : Addr) (vs : List (Str × V)) (v : V), dx = some dd ∧ H1 dd = some (.xd vs) ∧ vs.lookup f = some v ∧ ∀ p, H1 p = none → Q (.ref p) (upd H1 p (.lst [.str tag, v]))) H
    (fun v H1 => ∃ u, (some (some v) : Option (Option V)) = some (some u) ∧ Q u H1)
section
variable {X : Cx} {x a fo n cn ke f tag oth q : Str} {sg : Scope} {g C CK fI : Addr} {cdg : Value} {j1 j2 : Nat} {k1 k2 k3 k4 p1 p2 p3 p4 p5 p6 p7 p8 p9 pa pb pc pd pe pf pg ph : Pos}
theorem told_tag (hnd : ([a, fo, n] : List Str).Nodup) (hla : Vis sg a) (hlf : sg.names.lookup fo = some .local) (hln : sg.names.lookup n = some .local)
    (c : XCls X.K X.mg cn f C fI) (T : XIs X.K C CK) (hke : sg.names.lookup ke = some .globalImplicit) (hmk : X.mg ke = some (.ref CK)) (hdk : (ke == ("__debug__" : Str)) = false) (hgi : sg.names.lookup ("isinstance" : Str) = some .globalImplicit) (hmi : X.mg "isinstance" = none) (hgc : sg.names.lookup cn = some .globalImplicit) (hdc : (cn == ("__debug__" : Str)) = false)
    (hd1 : (n == ("__debug__" : Str)) = false) (hd2 : (n == ("__classdict__" : Str)) = false) (hd3 : (fo == ("__debug__" : Str)) = false) (hd4 : (fo == ("__classdict__" : Str)) = false) :
    GivesTo X [a, fo, n] x sg g cdg [.Try [.Assign [.Name fo p1] (.Call (.Name a p2) [] [] p3) p4] [.ExceptHandler (some (.Name ke p5)) (some n)
      [.Assign [.Name fo p6] (.IfExp (.Call (.Name "isinstance" p7) [.Name n p8, .Name cn p9] [] pa) (.List [.Constant (.str tag) j1 pb, .Attribute (.Name n pc) f pd] pe) (.Constant (.str oth) j2 pf) pg) ph] k1] [] [] k2, .Return (some (.Name fo k3)) k4] a q (TTtag C f tag) := by
  intro fa c1 s H Q tl act hc h
  have z1 : (cxOf C8.CX0 X.prog X.w X.K X.mg X.base [a, fo, n] x sg g cdg X.A X.stack s H C8.E0).nox.N.Nodup := hnd
  refine ⟨_, pss_cons (ps_try_as (X := (cxOf C8.CX0 X.prog X.w X.K X.mg X.base [a, fo, n] x sg g cdg X.A X.stack s H C8.E0).nox) (c := .ref CK) (i := 2)
      (tb := fun W D σ H1 => ∃ Ech : XK, (∀ cls d σ' H', σ'.length = 3 → Ech cls d H' → W cls d σ' H') ∧ σ[0]? = some (some (.ref fa)) ∧ H1 c1 = some (CodeO c1 q) ∧ tl Ech H1 (fun v H' => D.nx (σ.set 1 (some v)) H'))
      (ts := fun b cls d => tAsg (tIf (tB (tCB (rIsX X.K b cls d C CK) (tCons (tVar 2) (tCons (tC (.ref C)) tNil)))) (tLst (tCons (tC (.str tag)) (tCons (tXf b cls d C f (tVar 2)) tNil))) (tC (.str oth))) (gName 1))
      rfl rfl z1 rfl hln ⟨hke, hdk, .inl hmk⟩ L2.takes0 (fun W pn xe tk _ => ?_) (fun b oe cls d pn hz hfl => ?_)) (pss_one (ps_ret (pe_var (i := 1) rfl (.inl hlf) hd3 hd4))), ?_⟩
  · refine ⟨fun pins s1 σ H1 D I hh => ?_⟩
    obtain ⟨Ech, hW, h1, h2, h3⟩ := hh
    have tk2 : Takes ((cxOf C8.CX0 X.prog X.w X.K X.mg X.base [a, fo, n] x sg g cdg X.A X.stack s H C8.E0).tr pn xe) (fun cls d σ H' => σ.length = 3 → W cls d σ H') := fun u s2 ⟨a0, B, sI, pi, σ0, H0, cls, d, e, I0, nb, up, sky, na, os, ag, w0⟩ =>
      tk u s2 ⟨a0, B, sI, pi, σ0, H0, cls, d, e, I0, nb, up, sky, na, os, ag, w0 I0.len⟩
    have hp := act (fun cls d σ H' => σ.length = 3 → W cls d σ H') pn xe Ech p2 p3 tk2 (fun cls d σ' H' e l => hW cls d σ' H' l e)
    exact (pss_one (ps_set (i := 1) (x := fo) hnd rfl (.inl hlf) hp (by rfl) (.inr hlf))).run pins s1 σ H1 D I ⟨h1, h2, h3⟩
  · exact pss_one (ps_set (i := 1) (x := fo) hnd rfl (.inl hlf) (pe_ifExp (pt_val (pe_callB (call_isX T hz hfl) hgi hmi bl_isinstance (pa_cons (pe_var (i := 2) rfl (.inl hln) hd1 hd2) (pa_cons (pe_glob (v := .ref C) hgc c.mg rfl hdc) pa_nil (by rfl)) (by rfl)) (by decide) (by decide) (by rfl) (by rfl)))
      (pe_lst (pa_cons pe_str (pa_cons (pe_xf ⟨T.ga, T.gg, T.sb, T.hd⟩ c.no hz hfl (pe_var (i := 2) rfl (.inl hln) hd1 hd2) (by rfl)) pa_nil (by rfl)) (by rfl))) pe_str) (by rfl) (.inr hlf))
  · refine ⟨_, fun cls d σ' H' hl ⟨ec, dd, vs, v, ed, eH, el, hq⟩ => ⟨true, by rw [ec]; exact T.exm, fun _ b hb => ?_, fun z => by cases z⟩, rfl, hc, h⟩
    match σ', hl with
    | [u0, u1, u2], _ =>
      subst ec
      refine ⟨.ref b, rfl, ⟨dd, vs, rfl, ed, eH, rfl, true, rfl, ?_⟩⟩
      show if true = true then _ else _
      rw [if_pos rfl]
      refine ⟨.ref b, rfl, rfl, rfl, dd, vs, v, ed, eH, el, ?_, fun p hp => ⟨.ref p, rfl, hq p hp⟩⟩
      rw [sizeLine_eq]
      show 2 ≤ 16777216
      decide
end
def dTold (cn f tag : Str) (d : M PyData) : M PyData := fun r => match d r with
  | .ex e r1 => if e.c = cn then (match e.fs.lookup f with
    | some v => .ok (.list [.str tag, v]) r1
    | none => .st) else .st
  | y => y
section
variable {X : Cx} {TG : List TbK} {W : WX} {x a cn f tag : Str} {g c P C CK fI : Addr} {k : Nat} {pg : Arguments} {bg : List Stmt} {sg : Scope} {Ng : List Str} {fd : FuncData} {params : Arguments} {body : Expr} {scope : Scope} {d : M PyData} {p lpos pos : Pos}
theorem de_told (hg : Gl X x) (hm : X.mg x = some (.ref g)) (F : FunD X.K x x pg bg sg [] [] g fd) (hb : L2.Binds X.K fd [a] []) (Sg : FnScope Ng [a] sg) (hNg : Ng[0]? = some a) (hva : Vis sg a)
    (xc : XCls X.K X.mg cn f C fI) (hG : ∀ cdg, GivesTo X Ng x sg g cdg bg a (X.env.qual ++ "<lambda>") (TTtag C f tag))
    (TB : GxR.TabB X.base X.mg c P) (hcode : X.env.code = .ref c) (hP : (⟨P, some (X.env.qual ++ "<lambda>")⟩ : TbK) ∈ TG ∧ ∀ z ∈ TG, z.P = P → z.q = some (X.env.qual ++ "<lambda>")) (hr : Room (k + 2) X.A) (L : LamS X.env.scope scope) (hdef : defaultsOf params X.env = ([], []))
    (hbind : ∀ (q : Str) (cl : List (Str × Addr)) (pm cv ctv : Value), bindArgs (PySem.W.kla_fn "<lambda>" q params body scope cl pm cv ctv) ⟨[], []⟩ = pure [])
    (hbody : ∀ (A : Around) (outer : List Env) (s : Shared) (H : Hp) (E : XK) (f1 c1 : Addr), Room k (A.deeper (lamEnv X scope s.heap.objs.size f1 c1)) → DE (lamCx X A outer s H E scope f1 c1) TG (fun cls dx _ H1 => E cls dx H1) body d)
    (hdb : (x == ("__debug__" : Str)) = false := by decide) (hd : (a == ("__debug__" : Str)) = false := by decide) (hcd : (a == ("__classdict__" : Str)) = false := by decide) :
    DE X TG W (.Call (.Name x p) [.Lambda params body scope lpos] [] pos) (dTold cn f tag d) := by
  obtain ⟨oc, od, dV, kV, doc, pm, an, cdv, ct, osl, rfl, lk, hcg, _, _⟩ := F.ex
  refine PE_imp (pe_lamQ (t := fun E => rd X.K TG (fun cls dx _ H1 => E cls dx H1) (RE X.K) d) hg hm F.kp lk hcg hb Sg hNg hva (hG cdv) ⟨TB.code, TB.bm, TB.gP⟩ hcode hr L hdef hbind (fun A outer s H E f1 c1 h => hbody A outer s H E f1 c1 h) hdb hd hcd) fun s H Q q => ?_
  obtain ⟨B, FF, G0, G, r, i, pp⟩ := q
  refine ⟨i.tb _ hP.1, fun H1 lx T1 => ⟨B, FF, G0, G, r, i.lam hP lx T1, ?_⟩⟩
  unfold dTold at pp
  cases hd0 : d r with
  | st => rw [hd0] at pp; exact pp.elim
  | ok v r1 => rw [hd0] at pp; exact fun G1 H2 b e i1 rv => ⟨b, rfl, pp G1 H2 b e i1 rv⟩
  | ex e r1 =>
    rw [hd0] at pp
    have p2 : post X.K TG W (RE X.K) B FF G0 G s Q (if e.c = cn then (match e.fs.lookup f with
      | some v => .ok (.list [.str tag, v]) r1
      | none => .st) else .st) := pp
    clear pp
    split at p2
    · rename_i ex
      split at p2
      · rename_i v hv
        intro G1 H2 cls dx e1 i1 er
        obtain ⟨er1, er2⟩ := er
        rw [ex, xc.ns] at er1
        have er1 : cls = .ref C := er1
        obtain ⟨ec, efs⟩ := e
        cases efs with
        | nil => cases hv
        | cons e0 es =>
          obtain ⟨dd, vs, rfl, hG1, hnm, hrv⟩ := er2
          obtain ⟨u, hu, ru⟩ := rva_lookup hnm hrv hv
          refine ⟨er1, dd, vs, u, rfl, i1.gh _ _ hG1, hu, fun p0 hp0 => ?_⟩
          have gr := Grow.new i1.gh hp0 (.lst [.str tag, u]) (fun _ z => by cases z)
          exact p2 _ _ _ (e1.trans gr.g) (i1.grow gr) ⟨p0, _, rfl, upd_same, ⟨.str tag, [u], rfl, rfl, ⟨u, [], rfl, Rv.mono gr.g _ _ ru, rfl⟩⟩⟩
      · exact p2.elim
    · exact p2.elim
end
end TW

end
section
/-! bool(a tuple or a list); tables by their addresses -/
namespace TWB
open PySem PySem.Spec PyProof.Rows
theorem meets_tup (l : Addr) (items : Array Value) (hfit : (items.size : Int) < 2 ^ 63) :
    Meets (Builtin.«bool.__new__» ⟨[.type "bool", .ref l], []⟩) (fun _ R s => IsTup s.heap l items ∧ R (.ok (.ret (.bool (!items.isEmpty)))) { s with toks := s.toks + 1 + 1 }) :=
  Meets.of_wp fun prog w A R s hs => by
    obtain ⟨hl, hs⟩ := hs
    obtain ⟨hp, g, d, tk, os⟩ := s
    have f1 := PySem.F.conv_sub_bool
    repeat (any_goals (first | assumption | (with_reducible refine truthy_tuple hl hfit ?_) | wp_step))
    all_goals first | exact ⟨_, rfl, hs⟩ | exact hs | skip
end TWB
namespace TW
open PySem PySem.Spec PyProof.Rows L2
theorem call_boolT {X : Cx} : CallR X (.type "bool") (fun xs H Q => ∃ (a : Addr) (zs : List V), xs = [.ref a] ∧ SqT X.K H a zs ∧ Q (.bl (!zs.isEmpty)) H) := by
  intro pins s σ H xs us Q I r h
  obtain ⟨a, zs, rfl, hq, q⟩ := h
  obtain rfl := Vals.ref1 r
  obtain ⟨its, rv, pl, hz⟩ := I.tuple hq
  have hl := line63
  have hlen := rv.length
  exact call_bool_1 (TWB.meets_tup a its.toArray (by simp only [List.size_toArray]; omega)) ⟨pl, rfl, ⟨.bl (!zs.isEmpty), H, I.tok _, by rw [isEmpty_of rv]; rfl, q⟩⟩
def fBool : List PyData → Option Rz
  | [.tuple ds] => some (.v (.bool (!ds.isEmpty)))
  | [.list ds] => some (.v (.bool (!ds.isEmpty)))
  | _ => none
theorem RvA.emp {K : PySem.W.Frag} {G : Hp} {ds : List PyData} {xs : List V} (h : RvA K G ds xs) : xs.isEmpty = ds.isEmpty := by
  have e := h.len
  cases ds <;> cases xs <;> simp at e ⊢
theorem oa_bool {X : Cx} : OpA X (fun xs H Q => (∃ (a : Addr) (zs : List V), xs = [.ref a] ∧ SqL X.K H a zs ∧ Q (.bl (!zs.isEmpty)) H) ∨ ∃ (a : Addr) (zs : List V), xs = [.ref a] ∧ SqT X.K H a zs ∧ Q (.bl (!zs.isEmpty)) H) fBool := by
  intro ds z xs G H Q gh hz h qv ql
  unfold fBool at hz
  split at hz
  · cases hz
    obtain ⟨x, rfl, hx⟩ := h.one
    obtain ⟨a, ys, rfl, h1, h2⟩ := (show Rv X.K G (.tuple _) x from hx)
    exact .inr ⟨_, _, rfl, same_t gh h1, by rw [h2.emp]; exact qv _ rfl G H _ (.refl gh) rfl⟩
  · cases hz
    obtain ⟨x, rfl, a, ys, rfl, h1, h2⟩ := h.one
    exact .inl ⟨_, _, rfl, .inl (.inl h1), by rw [h2.emp]; exact qv _ rfl G H _ (.refl gh) rfl⟩
  · cases hz
section
variable {X : Cx} {TG : List TbK} {W : WX} {e : Expr} {ra : M (List Arg)} {p2 pos : Pos}
theorem dx_bool (hg : Gl X "bool") (hm : X.mg "bool" = none) (ha : DA X TG W [e] ra) (he : starEach [e] X.env = (false, eval e X.env) :: starEach [] X.env := by rfl) : DX X TG W (.Call (.Name "bool" p2) [e] [] pos) (xFn fBool ra) := dx_fnT (call_boolL.or call_boolT) oa_bool hg hm rfl ha (by decide) (by decide) he
end
theorem tb_uniq : ∀ {TG : List TbK}, (TG.map (·.P)).Nodup → ∀ {z y : TbK}, z ∈ TG → y ∈ TG → z.P = y.P → z = y
  | [], _, z, _, h, _, _ => by cases h
  | a :: TG, hn, z, y, hz, hy, e => by
    rw [List.map_cons, List.nodup_cons] at hn
    rcases List.mem_cons.mp hz with q1 | q1
    · rcases List.mem_cons.mp hy with q2 | q2
      · rw [q1, q2]
      · exact absurd (List.mem_map_of_mem (f := fun x : TbK => x.P) q2) (by show ¬ y.P ∈ _; rw [← e, q1]; exact hn.1)
    · rcases List.mem_cons.mp hy with q2 | q2
      · exact absurd (List.mem_map_of_mem (f := fun x : TbK => x.P) q1) (by show ¬ z.P ∈ _; rw [e, q2]; exact hn.1)
      · exact tb_uniq hn.2 q1 q2 e
end TW

end
section
/-! plain laws: all, any, filters -/
namespace TW
open PySem PySem.Spec PyProof.Rows L2
section
variable {T : Tg} {tt : M Bool} {elt : M PyData} {own : List Nat}
theorem gen_all {P : List Sl → Prop} {f : PyData → Bool} : ∀ {ds : List PyData} {r : List Sl}, P r →
    (∀ d ∈ ds, ∀ r, P r → noIo r own = true ∧ ∃ r1 r2 r3, T d (wipeR r own) = some r1 ∧ tt r1 = .ok true r2 ∧ elt r2 = .ok (.bool (f d)) r3 ∧ P r3) → ∃ r', genF false own T tt elt ds r = .ok (.bool (ds.all f)) r' ∧ P r'
  | [], r, h, _ => ⟨r, rfl, h⟩
  | d :: ds, r, h, step => by
    obtain ⟨h1, r1, r2, r3, e1, e2, e3, h3⟩ := step d List.mem_cons_self r h
    cases hf : f d with
    | false => exact ⟨r3, by simp only [genF, h1, if_true, e1, e2, e3, hf, List.all_cons, Bool.false_and], h3⟩
    | true =>
      obtain ⟨r', e, h'⟩ := gen_all (ds := ds) h3 fun z hz => step z (List.mem_cons_of_mem _ hz)
      exact ⟨r', by simp only [genF, h1, if_true, e1, e2, e3, hf, List.all_cons, Bool.true_and, Bool.true_eq_false, if_false, e], h'⟩
theorem gen_any {P : List Sl → Prop} {f : PyData → Bool} : ∀ {ds : List PyData} {r : List Sl}, P r →
    (∀ d ∈ ds, ∀ r, P r → noIo r own = true ∧ ∃ r1 r2 r3, T d (wipeR r own) = some r1 ∧ tt r1 = .ok true r2 ∧ elt r2 = .ok (.bool (f d)) r3 ∧ P r3) → ∃ r', genF true own T tt elt ds r = .ok (.bool (ds.any f)) r' ∧ P r'
  | [], r, h, _ => ⟨r, rfl, h⟩
  | d :: ds, r, h, step => by
    obtain ⟨h1, r1, r2, r3, e1, e2, e3, h3⟩ := step d List.mem_cons_self r h
    cases hf : f d with
    | true => exact ⟨r3, by simp only [genF, h1, if_true, e1, e2, e3, hf, List.any_cons, Bool.true_or], h3⟩
    | false =>
      obtain ⟨r', e, h'⟩ := gen_any (ds := ds) h3 fun z hz => step z (List.mem_cons_of_mem _ hz)
      exact ⟨r', by simp only [genF, h1, if_true, e1, e2, e3, hf, List.any_cons, Bool.false_or, Bool.false_eq_true, if_false, e], h'⟩
theorem lc_flt {P : List Sl → Prop} {g : PyData → Bool} {f : PyData → PyData} : ∀ {ds : List PyData} {acc : List PyData} {r : List Sl}, P r →
    (∀ d ∈ ds, ∀ r, P r → noIo r own = true ∧ ∃ r1 r2, T d (wipeR r own) = some r1 ∧ tt r1 = .ok (g d) r2 ∧ P r2 ∧ (g d = true → ∃ r3, elt r2 = .ok (f d) r3 ∧ P r3)) → ∃ r', lcF own T tt elt ds acc r = .ok (acc ++ (ds.filter g).map f) r' ∧ P r'
  | [], acc, r, h, _ => ⟨r, by simp [lcF, M.ret], h⟩
  | d :: ds, acc, r, h, step => by
    obtain ⟨h1, r1, r2, e1, e2, h2, h3⟩ := step d List.mem_cons_self r h
    cases hg : g d with
    | true =>
      obtain ⟨r3, e3, h4⟩ := h3 hg
      obtain ⟨r', e, h'⟩ := lc_flt (ds := ds) (acc := acc ++ [f d]) h4 fun z hz => step z (List.mem_cons_of_mem _ hz)
      exact ⟨r', by simp only [lcF, h1, if_true, e1, e2, hg, e3, e, List.filter_cons]; simp, h'⟩
    | false =>
      obtain ⟨r', e, h'⟩ := lc_flt (ds := ds) (acc := acc) h2 fun z hz => step z (List.mem_cons_of_mem _ hz)
      exact ⟨r', by simp only [lcF, h1, if_true, e1, e2, hg, e, List.filter_cons]; simp, h'⟩
end
theorem sh_parts {xs : List PyData} (h : SeqAt.shaped (.tuple xs) = true ∨ SeqAt.shaped (.list xs) = true) : ∀ x ∈ xs, SeqAt.shaped x = true := by
  have h2 : PyData.canLayAll0 xs = true ∧ PyData.depthAll xs ≤ 63 := by
    rcases h with h | h <;>
    · obtain ⟨a, b⟩ := Bool.and_eq_true_iff.mp h
      refine ⟨by simpa [PyData.canLay0] using a, ?_⟩
      have := of_decide_eq_true b
      simp only [PyData.depth] at this
      omega
  clear h
  induction xs with
  | nil => intro x hx; cases hx
  | cons y ys ih =>
    obtain ⟨h3, h4⟩ := h2
    simp only [PyData.canLayAll0, Bool.and_eq_true] at h3
    simp only [PyData.depthAll] at h4
    intro x hx
    rcases List.mem_cons.mp hx with rfl | hx
    · exact Bool.and_eq_true_iff.mpr ⟨h3.1, decide_eq_true (by omega)⟩
    · exact ih ⟨h3.2, by omega⟩ x hx
theorem sh_ints {xs : List PyData} (h : ∀ x ∈ xs, ∃ k : Int, x = .int k) : SeqAt.shaped (.list xs) = true := by
  have h2 : PyData.canLayAll0 xs = true ∧ PyData.depthAll xs = 0 := by
    induction xs with
    | nil => exact ⟨rfl, rfl⟩
    | cons y ys ih =>
      obtain ⟨a, b⟩ := ih fun x hx => h x (List.mem_cons_of_mem _ hx)
      obtain ⟨k, rfl⟩ := h y List.mem_cons_self
      exact ⟨by simp [PyData.canLayAll0, PyData.canLay0, a], by simp [PyData.depthAll, PyData.depth, b]⟩
  refine Bool.and_eq_true_iff.mpr ⟨by simpa [PyData.canLay0] using h2.1, decide_eq_true ?_⟩
  simp only [PyData.depth, h2.2]
  omega
theorem sh_intsT {xs : List PyData} (h : ∀ x ∈ xs, ∃ k : Int, x = .int k) : SeqAt.shaped (.tuple xs) = true := by
  have := sh_ints h
  obtain ⟨a, b⟩ := Bool.and_eq_true_iff.mp this
  refine Bool.and_eq_true_iff.mpr ⟨by simpa [PyData.canLay0] using a, ?_⟩
  simpa [PyData.depth] using b
theorem fEq_emp {xs : List PyData} (h : ∀ x ∈ xs, ∃ k : Int, x = .int k) : fEq (.list xs) (.list []) = some (.bool xs.isEmpty) := by
  unfold fEq
  rw [sh_ints h, show SeqAt.shaped (.list []) = true from rfl]
  cases xs <;> rfl
end TW
namespace TW
open PySem PySem.Spec PyProof.Rows L2
theorem genB_ok {stop : Bool} {own : List Nat} {T : Tg} {tt : M Bool} {elt : M PyData} {r r' : List Sl} {ds : List PyData} {d : PyData} (h : genF stop own T tt elt ds r = .ok d r') (hn : noIo r' own = true) : genB stop own T tt elt ds r = .ok d (unwipe own r r') := by
  simp only [genB, h, hn, if_true]
theorem isi_ok {T : String} {i : Nat} {r : List Sl} {d : PyData} (h : r[i]? = some (.v d)) : ((dIsi T (oN i)).bind asB) r = .ok (isB T d) r := by
  simp only [dIsi, oN, h, M.bind, Res.bind, reso, asB, M.ret]
theorem or_ff {t u : M Bool} {r r1 r2 : List Sl} {b : Bool} (h : t r = .ok false r1) (h2 : u r1 = .ok b r2) : dtOr t u r = .ok b r2 := by
  simp only [dtOr, M.bind, Res.bind, h]
  exact h2
theorem or_t {t u : M Bool} {r r1 : List Sl} (h : t r = .ok true r1) : dtOr t u r = .ok true r1 := by
  simp only [dtOr, M.bind, Res.bind, h, if_true]
  rfl
theorem not_ok {t : M Bool} {r r1 : List Sl} {b : Bool} (h : t r = .ok b r1) : dtNot t r = .ok (!b) r1 := by
  simp only [dtNot, M.bind, Res.bind, h, M.ret]
theorem and_t {t u : M Bool} {r r1 r2 : List Sl} {b : Bool} (h : t r = .ok true r1) (h2 : u r1 = .ok b r2) : dtAnd t u r = .ok b r2 := by
  simp only [dtAnd, M.bind, Res.bind, h, if_true]
  exact h2
theorem and_f {t u : M Bool} {r r1 : List Sl} (h : t r = .ok false r1) : dtAnd t u r = .ok false r1 := by
  simp only [dtAnd, M.bind, Res.bind, h]
  rfl
end TW

end
section
/-! printed by pr.py: what the defs compute -/
namespace K02
open PySem PySem.Spec PyProof.Rows L2 TW
def con_HIDDEN : PyData := .tuple [.str "in", .str "inout"]
def con_MOST_EDITS : PyData := .int (100)
def con_MOST_LETTERS : PyData := .int (3)
def con_MOST_TEXT : PyData := .int (60)
def con_WORLDS : PyData := .tuple [.str "end", .str "ends", .str "stack", .str "deque", .str "in", .str "inout", .str "relabel", .str "reverse"]
def tab_KINDS : List (Str × PyData) := [("end", .tuple [.str "put"]), ("ends", .tuple [.str "front", .str "put"]), ("stack", .tuple [.str "chop", .str "put"]), ("deque", .tuple [.str "behead", .str "chop", .str "front", .str "put"]), ("in", .tuple [.str "put"]), ("inout", .tuple [.str "put", .str "take"]), ("relabel", .tuple [.str "put"]), ("reverse", .tuple [.str "put"])]
def D__law_alike : Nat → M PyData
  | 0 => fnOf 2 3 .st
  | n + 1 => fnOf 2 3 (sSeq (sIf ((dIsi2 "tuple" "list" (oN 1)).bind asB) (sSeq (sIf (dtOr (dtNot ((dIsi2 "tuple" "list" (oN 0)).bind asB)) ((dBin fNe (oV (dIsi "list" (oN 0))) (oV (dIsi "list" (oN 1)))).bind asB)) (sRet (dC (.bool false))) sNil)
  (sSeq (sIf ((dBin fNe (oV (dFx (xFn fLen (aO (oN 0) aNil)))) (oV (dFx (xFn fLen (aO (oN 1) aNil))))).bind asB) (sRet (dC (.bool false))) sNil)
  (sRet (dBin fEq (oV (dFz (lLc [2] (aBind (aV (dFx (xFn fLen (aO (oN 1) aNil))) aNil) iRange1) (gN 2) (dtNot ((dCall (D__law_alike n) (aV (dBin fIx (oN 0) (oN 2)) (aV (dBin fIx (oN 1) (oN 2)) aNil))).bind asB)) (dVar 2)))) (oV (dFz (lLst aNil))))))) sNil)
  (sSeq (sIf (dtOr ((dBin fIs (oN 1) (oV (dC .none))).bind asB) ((dIsi "str" (oN 1)).bind asB)) (sRet (dAnd (dBin fEq (oN 0) (oN 1)) (dBin fEq (oV (dIsi "str" (oN 0))) (oV (dIsi "str" (oN 1)))))) sNil)
  (sRet (dAnd (dIsi "int" (oN 0)) (dAnd (dBin fEq (oV (dIsi "bool" (oN 0))) (oV (dIsi "bool" (oN 1)))) (dBin fEq (oN 0) (oN 1)))))))
def D__law_done : M PyData := fnOf 3 5 (sSeq (sIf (dtAnd ((dBin fEq (oN 0) (oV (dC (.str "relabel")))).bind asB) ((dBin fEq (oV (dBin fIx (oN 2) (oV (dC (.int 0))))) (oV (dC (.str "turn")))).bind asB)) (sRet (dFx (xFn fTuple (aO (oV (dFz (lLc [3] (iSeq (dVar 1)) (gN 3) tYesD (dBin fIx (oV (dBin fIx (oN 2) (oV (dC (.int 1))))) (oN 3))))) aNil)))) sNil)
  (sSeq (sIf ((dBin fEq (oV (dBin fIx (oN 2) (oV (dC (.int 0))))) (oV (dC (.str "turn")))).bind asB) (sRet (dRevT (dVar 1))) sNil)
  (sSeq (sIf ((dBin (fIn false) (oV (dBin fIx (oN 2) (oV (dC (.int 0))))) (oV (dFz (lLst (aV (dC (.str "chop")) (aV (dC (.str "behead")) aNil)))))).bind asB) (sRet (dFx (xIf ((dBin fEq (oV (dBin fIx (oN 2) (oV (dC (.int 0))))) (oV (dC (.str "chop")))).bind asB) (xSl (oN 1) pNo (pAt (dNeg (dC (.int 1))))) (xSl (oN 1) (pAt (dC (.int 1))) pNo)))) sNil)
  (sSeq (sIf ((dBin fEq (oV (dBin fIx (oN 2) (oV (dC (.int 0))))) (oV (dC (.str "take")))).bind asB) (sRet (dFx (xBin fAdd (oV (dFx (xSl (oN 1) pNo (pAt (dBin fIx (oN 2) (oV (dC (.int 2)))))))) (oV (dFx (xSl (oN 1) (pAt (dFx (xBin fAdd (oV (dBin fIx (oN 2) (oV (dC (.int 2))))) (oV (dC (.int 1)))))) pNo)))))) sNil)
  (sSeq (sSetX 4 (xIf ((dBin fEq (oV (dBin fIx (oN 2) (oV (dC (.int 0))))) (oV (dC (.str "put")))).bind asB) (xFn fLen (aO (oN 1) aNil)) (xV (dC (.int 0)))))
  (sSeq (sIf ((dBin (fIn false) (oN 0) (oV (dFz (lLst (aV (dC (.str "in")) (aV (dC (.str "inout")) aNil)))))).bind asB) (sSetX 4 (xV (dBin fIx (oN 2) (oV (dC (.int 2)))))) sNil)
  (sRet (dFx (xBin fAdd (oV (dFx (xBin fAdd (oV (dFx (xSl (oN 1) pNo (pAt (dVar 4))))) (oV (dTup (aV (dBin fIx (oN 2) (oV (dC (.int 1)))) aNil)))))) (oV (dFx (xSl (oN 1) (pAt (dVar 4)) pNo))))))))))))
def D__law_orders : M PyData := fnOf 1 6 (sSeq (sSetX 1 (xL (lLst (aV (dTup aNil) aNil))))
  (sSeq (sFor (aBind (aV (dVar 0) aNil) iRange1) (gN 2) (sSeq (sSetX 3 (xL (lLst aNil)))
  (sSeq (sFor (iSeq (dVar 1)) (gN 4) (sSetX 3 (xBin fAdd (oN 3) (oV (dFz (lLc [5] (aBind (aV (dVar 0) aNil) iRange1) (gN 5) ((dBin (fIn true) (oN 5) (oN 4)).bind asB) (dFx (xBin fAdd (oN 4) (oV (dTup (aV (dVar 5) aNil)))))))))))
  (sSetX 1 (xV (dVar 3))))))
  (sRet (dFx (xFn fSorted (aO (oN 1) aNil))))))
def D__law_messages : M PyData := fnOf 2 7 (sSeq (sSetX 2 (xV (dDisp ["ends", "stack", "deque", "inout"] (psCons (dFz (lLst (aV (dC (.str "front")) aNil))) (psCons (dFz (lLst (aV (dC (.str "chop")) aNil))) (psCons (dFz (lLst (aV (dC (.str "behead")) (aV (dC (.str "chop")) (aV (dC (.str "front")) aNil))))) (psCons (dFz (lLst (aV (dC (.str "take")) aNil))) psNil)))))))
  (sSeq (sSetX 3 (xL (lLst aNil)))
  (sSeq (sFor (iSeq (dFx (xBin fAdd (oV (dGet2 (dVar 2) (dVar 0) (dFz (lLst aNil)))) (oV (dFz (lLst (aV (dC (.str "put")) aNil))))))) (gN 4) (sSetX 3 (xBin fAdd (oN 3) (oV (dFz (lLc [5] (aBind (aV (dVar 1) aNil) iRange1) (gN 5) tYesD (dTup (aV (dVar 4) (aV (dVar 5) aNil)))))))))
  (sSeq (sIf ((dBin fEq (oN 0) (oV (dC (.str "relabel")))).bind asB) (sSetX 3 (xBin fAdd (oN 3) (oV (dFz (lLc [6] (iSeq (dCall (D__law_orders) (aV (dVar 1) aNil))) (gN 6) tYesD (dTup (aV (dC (.str "turn")) (aV (dVar 6) aNil)))))))) sNil)
  (sSeq (sIf ((dBin fEq (oN 0) (oV (dC (.str "reverse")))).bind asB) (sDrop (mOwn 3 fAppend (aV (dTup (aV (dC (.str "turn")) aNil)) aNil))) sNil)
  (sRet (dFx (xFn fSorted (aO (oN 3) aNil)))))))))
def D__law_edits : M PyData := fnOf 3 7 (sSeq (sSetX 3 (xL (lLst aNil)))
  (sSeq (sFor (iSeq (dCall (D__law_messages) (aV (dVar 0) (aV (dVar 1) aNil)))) (gN 4) (sSeq (sSetX 5 (xV (dBin fIx (oN 4) (oV (dC (.int 0))))))
  (sIf ((dBin (fIn false) (oN 0) (oV (dFz (lLst (aV (dC (.str "in")) (aV (dC (.str "inout")) aNil)))))).bind asB) (sIf ((dBin fEq (oN 5) (oV (dC (.str "put")))).bind asB) (sSetX 3 (xBin fAdd (oN 3) (oV (dFz (lLc [6] (aBind (aV (dFx (xBin fAdd (oV (dFx (xFn fLen (aO (oN 2) aNil)))) (oV (dC (.int 1))))) aNil) iRange1) (gN 6) tYesD (dFx (xBin fAdd (oN 4) (oV (dTup (aV (dVar 6) aNil)))))))))) (sSetX 3 (xBin fAdd (oN 3) (oV (dFz (lLc [6] (aBind (aV (dFx (xFn fLen (aO (oN 2) aNil))) aNil) iRange1) (gN 6) ((dBin fEq (oV (dBin fIx (oN 2) (oN 6))) (oV (dBin fIx (oN 4) (oV (dC (.int 1)))))).bind asB) (dFx (xBin fAdd (oN 4) (oV (dTup (aV (dVar 6) aNil))))))))))) (sIf (dtOr (dtAnd ((dBin fEq (oN 5) (oV (dC (.str "chop")))).bind asB) ((dBin fEq (oV (dFx (xSl (oN 2) (pAt (dNeg (dC (.int 1)))) pNo))) (oV (dTup (aV (dBin fIx (oN 4) (oV (dC (.int 1)))) aNil)))).bind asB)) (dtAnd ((dBin fEq (oN 5) (oV (dC (.str "behead")))).bind asB) ((dBin fEq (oV (dFx (xSl (oN 2) pNo (pAt (dC (.int 1)))))) (oV (dTup (aV (dBin fIx (oN 4) (oV (dC (.int 1)))) aNil)))).bind asB))) (sDrop (mOwn 3 fAppend (aV (dVar 4) aNil))) (sIf ((dBin (fIn true) (oN 5) (oV (dFz (lLst (aV (dC (.str "chop")) (aV (dC (.str "behead")) aNil)))))).bind asB) (sDrop (mOwn 3 fAppend (aV (dVar 4) aNil))) sNil)))))
  (sRet (dVar 3))))
def D__law_taken : M PyData := fnOf 2 4 (sSeq (sIf ((dBin fGt (oV (dBin fIx (oN 0) (oV (dC (.int 3))))) (oV (dC (.int 0)))).bind asB) (sSeq (sSetX 2 (xV (dBin fMod (oV (dFx (xFn fToInt (aO (oV (dBin fIx (oN 0) (oV (dC (.int 3))))) aNil)))) (oN 1))))
  (sSeq (sPutN 0 (dC (.int 3)) (dBin fDiv (oV (dBin fIx (oN 0) (oV (dC (.int 3))))) (oN 1)))
  (sRet (dVar 2)))) sNil)
  (sSeq (sPutN 0 (dC (.int 1)) (dFx (xBin fAdd (oV (dBin fIx (oN 0) (oV (dC (.int 1))))) (oV (dC (.int 1))))))
  (sSeq (sIf ((dBin fGt (oV (dBin fIx (oN 0) (oV (dC (.int 1))))) (oV (dFx (xFn fLen (aO (oV (dBin fIx (oN 0) (oV (dC (.int 0))))) aNil))))).bind asB) (sSeq (sPutN 0 (dC (.int 2)) (dBin fMod (oV (dFx (xFn fToInt (aO (oV (dFx (xBin fAdd (oV (dFx (xBin fMul (oV (dBin fIx (oN 0) (oV (dC (.int 2))))) (oV (dC (.int 48271)))))) (oV (dC (.int 11)))))) aNil)))) (oV (dC (.int 2147483647)))))
  (sRet (dBin fMod (oV (dFx (xFn fToInt (aO (oV (dBin fDiv (oV (dBin fIx (oN 0) (oV (dC (.int 2))))) (oV (dC (.int 7))))) aNil)))) (oN 1)))) sNil)
  (sSeq (sSetX 3 (xV (dBin fIx (oV (dBin fIx (oN 0) (oV (dC (.int 0))))) (oV (dBin fSub (oV (dBin fIx (oN 0) (oV (dC (.int 1))))) (oV (dC (.int 1))))))))
  (sSeq (sPutN 0 (dC (.int 2)) (dBin fMod (oV (dFx (xFn fToInt (aO (oV (dFx (xBin fAdd (oV (dFx (xBin fAdd (oV (dFx (xBin fMul (oV (dBin fIx (oN 0) (oV (dC (.int 2))))) (oV (dC (.int 48271)))))) (oN 3)))) (oV (dC (.int 11)))))) aNil)))) (oV (dC (.int 2147483647)))))
  (sSeq (sIf ((dBin fGe (oN 3) (oV (dBin fPow (oV (dC (.int 10))) (oV (dC (.int 18)))))).bind asB) (sPutN 0 (dC (.int 3)) (dBin fDiv (oN 3) (oN 1))) sNil)
  (sRet (dBin fMod (oV (dFx (xFn fToInt (aO (oN 3) aNil)))) (oN 1)))))))))
def D__law_pick : M PyData := fnOf 2 2 (sRet (dBin fIx (oN 1) (oV (dCall (D__law_taken) (aIo 0 (aV (dFx (xFn fLen (aO (oN 1) aNil))) aNil))))))
def D__law_history : M PyData := fnOf 4 8 (sSeq (sPar [4, 5] (axCons (xL (lLst aNil)) (axCons (xL (lLst (aV (dTup aNil) aNil))) axNil)))
  (sSeq (sFor (aBind (aV (dVar 3) aNil) iRange1) (gN 6) (sSeq (sSetX 7 (xV (dCall (D__law_pick) (aIo 0 (aV (dCall (D__law_edits) (aV (dVar 1) (aV (dVar 2) (aV (dBin fIx (oN 5) (oV (dNeg (dC (.int 1))))) aNil)))) aNil)))))
  (sSeq (sDrop (mOwn 4 fAppend (aV (dVar 7) aNil)))
  (sDrop (mOwn 5 fAppend (aV (dCall (D__law_done) (aV (dVar 1) (aV (dBin fIx (oN 5) (oV (dNeg (dC (.int 1))))) (aV (dVar 7) aNil)))) aNil))))))
  (sRet (dTup (aV (dFx (xFn fTuple (aO (oN 4) aNil))) (aV (dVar 5) aNil))))))
def D__law_said : M PyData := fnOf 2 3 (sRet (dFz (lLc [2] (iSeq (dVar 1)) (gN 2) tYesD (dFx (xIf ((dBin (fIn false) (oN 0) (oV (dFz (lLst (aV (dC (.str "in")) (aV (dC (.str "inout")) aNil)))))).bind asB) (xSl (oN 2) pNo (pAt (dC (.int 2)))) (xV (dVar 2)))))))
def D__law_told : M PyData := fnOf 1 3 .st
def D__law_world : M PyData := fnOf 1 2 (sSeq (sSetX 1 (xL (lLst (aV (dC (.str "end")) (aV (dC (.str "ends")) (aV (dC (.str "stack")) (aV (dC (.str "deque")) (aV (dC (.str "in")) (aV (dC (.str "inout")) (aV (dC (.str "relabel")) (aV (dC (.str "reverse")) aNil)))))))))))
  (sRet (dCall (D__law_pick) (aIo 0 (aV (dFx (xBin fAdd (oN 1) (oV (dFz (lLst (aV (dC (.str "inout")) (aV (dC (.str "in")) (aV (dC (.str "stack")) aNil)))))))) aNil)))))
def D_orders : M PyData := fnOf 1 5 (sSeq (sSetX 1 (xL (lLst (aV (dTup aNil) aNil))))
  (sSeq (sFor (aBind (aV (dVar 0) aNil) iRange1) (gN 2) (sSetL 1 (lLc2 [3, 4] [4] (iSeq (dVar 1)) (gN 3) tYesD (aBind (aV (dVar 0) aNil) iRange1) (gN 4) ((dBin (fIn true) (oN 4) (oN 3)).bind asB) (dFx (xBin fAdd (oN 3) (oV (dTup (aV (dVar 4) aNil))))))))
  (sRet (dFx (xFn fSorted (aO (oN 1) aNil))))))
def D_all_messages : M PyData := fnOf 2 6 (sSeq (sSetL 2 (lLc2 [3, 4] [4] (iSeq (dKix tab_KINDS (dVar 0))) (gN 3) tYesD (aBind (aV (dVar 1) aNil) iRange1) (gN 4) tYesD (dTup (aV (dVar 3) (aV (dVar 4) aNil)))))
  (sSeq (sIf ((dBin fEq (oN 0) (oV (dC (.str "relabel")))).bind asB) (sAug true 2 gAdd (dFz (lLc [5] (iSeq (dCall (D_orders) (aV (dVar 1) aNil))) (gN 5) tYesD (dTup (aV (dC (.str "turn")) (aV (dVar 5) aNil)))))) sNil)
  (sSeq (sIf ((dBin fEq (oN 0) (oV (dC (.str "reverse")))).bind asB) (sDrop (mOwn 2 fAppend (aV (dTup (aV (dC (.str "turn")) aNil)) aNil))) sNil)
  (sRet (dFx (xFn fSorted (aO (oN 2) aNil)))))))
def D_is_number : M PyData := fnOf 3 3 (sRet (dAnd (dIsi "int" (oN 0)) (dAnd (dNot (dIsi "bool" (oN 0))) (dChain fLe fLe (oN 1) (oN 0) (oN 2)))))
def D_need_letters : M PyData := fnOf 1 1 (sIf (dtNot ((dCall (D_is_number) (aV (dVar 0) (aV (dC (.int 1)) (aV (dC con_MOST_LETTERS) aNil)))).bind asB)) .st sNil)
def D_need_world : M PyData := fnOf 1 1 (sIf (dtOr (dtNot ((dIsi "str" (oN 0)).bind asB)) ((dBin (fIn true) (oN 0) (oV (dC con_WORLDS))).bind asB)) .st sNil)
def D_messages : M PyData := fnOf 2 2 (sSeq (sDrop (dCall (D_need_world) (aV (dVar 0) aNil)))
  (sSeq (sDrop (dCall (D_need_letters) (aV (dVar 1) aNil)))
  (sRet (dFx (xFn fTuple (aO (oV (dCall (D_all_messages) (aV (dVar 0) (aV (dVar 1) aNil)))) aNil))))))
def D_done : M PyData := fnOf 3 5 (sSeq (sSetX 3 (xV (dBin fIx (oN 2) (oV (dC (.int 0))))))
  (sSeq (sIf ((dBin fEq (oN 3) (oV (dC (.str "turn")))).bind asB) (sRet (dFx (xIf ((dBin fEq (oN 0) (oV (dC (.str "relabel")))).bind asB) (xFn fTuple (aO (oV (dFz (lLc [4] (iSeq (dVar 1)) (gN 4) tYesD (dBin fIx (oV (dBin fIx (oN 2) (oV (dC (.int 1))))) (oN 4))))) aNil)) (xV (dRevT (dVar 1)))))) sNil)
  (sSeq (sIf ((dBin fEq (oN 3) (oV (dC (.str "chop")))).bind asB) (sRet (dFx (xSl (oN 1) pNo (pAt (dNeg (dC (.int 1))))))) sNil)
  (sSeq (sIf ((dBin fEq (oN 3) (oV (dC (.str "behead")))).bind asB) (sRet (dFx (xSl (oN 1) (pAt (dC (.int 1))) pNo))) sNil)
  (sSeq (sIf ((dBin fEq (oN 3) (oV (dC (.str "front")))).bind asB) (sRet (dFx (xBin fAdd (oV (dTup (aV (dBin fIx (oN 2) (oV (dC (.int 1)))) aNil))) (oN 1)))) sNil)
  (sSeq (sIf ((dBin (fIn true) (oN 0) (oV (dC con_HIDDEN))).bind asB) (sRet (dFx (xBin fAdd (oN 1) (oV (dTup (aV (dBin fIx (oN 2) (oV (dC (.int 1)))) aNil)))))) sNil)
  (sSeq (sIf ((dBin fEq (oN 3) (oV (dC (.str "take")))).bind asB) (sRet (dFx (xBin fAdd (oV (dFx (xSl (oN 1) pNo (pAt (dBin fIx (oN 2) (oV (dC (.int 2)))))))) (oV (dFx (xSl (oN 1) (pAt (dFx (xBin fAdd (oV (dBin fIx (oN 2) (oV (dC (.int 2))))) (oV (dC (.int 1)))))) pNo)))))) sNil)
  (sRet (dFx (xBin fAdd (oV (dFx (xBin fAdd (oV (dFx (xSl (oN 1) pNo (pAt (dBin fIx (oN 2) (oV (dC (.int 2)))))))) (oV (dTup (aV (dBin fIx (oN 2) (oV (dC (.int 1)))) aNil)))))) (oV (dFx (xSl (oN 1) (pAt (dBin fIx (oN 2) (oV (dC (.int 2))))) pNo)))))))))))))
def D_is_like : Nat → M PyData
  | 0 => fnOf 2 4 .st
  | n + 1 => fnOf 2 4 (sSeq (sIf ((dIsi "tuple" (oN 1)).bind asB) (sSeq (sIf (dtOr (dtNot ((dIsi "tuple" (oN 0)).bind asB)) ((dBin fNe (oV (dFx (xFn fLen (aO (oN 0) aNil)))) (oV (dFx (xFn fLen (aO (oN 1) aNil))))).bind asB)) (sRet (dC (.bool false))) sNil)
  (sRet (dGen false [2, 3] (aBind (aV (dVar 0) (aV (dVar 1) aNil)) iZip) (gT (gLen 2 (gsC (gN 2) (gsC (gN 3) gsN)))) tYesD (dCall (D_is_like n) (aV (dVar 2) (aV (dVar 3) aNil)))))) sNil)
  (sSeq (sIf (dtOr ((dIsi "bool" (oN 0)).bind asB) ((dBin fNe (oV (dIsi "str" (oN 0))) (oV (dIsi "str" (oN 1)))).bind asB)) (sRet (dC (.bool false))) sNil)
  (sRet (dBin fEq (oN 0) (oN 1)))))
def D_is_edit : M PyData := fnOf 4 7 (sSeq (sIf (dtOr (dtNot ((dIsi "tuple" (oN 3)).bind asB)) (dtNot (dTr (dVar 3)))) (sRet (dC (.bool false))) sNil)
  (sSeq (sSetX 4 (xIf ((dBin (fIn false) (oN 0) (oV (dC con_HIDDEN))).bind asB) (xSl (oN 3) pNo (pAt (dC (.int 2)))) (xV (dVar 3))))
  (sSeq (sIf (dtNot ((dGen true [5] (iSeq (dCall (D_all_messages) (aV (dVar 0) (aV (dVar 1) aNil)))) (gN 5) tYesD (dCall (D_is_like 6) (aV (dVar 4) (aV (dVar 5) aNil)))).bind asB)) (sRet (dC (.bool false))) sNil)
  (sSeq (sSetX 6 (xV (dBin fIx (oN 3) (oV (dC (.int 0))))))
  (sSeq (sIf ((dBin (fIn false) (oN 0) (oV (dC con_HIDDEN))).bind asB) (sSeq (sIf (dtOr ((dBin fNe (oV (dFx (xFn fLen (aO (oN 3) aNil)))) (oV (dC (.int 3)))).bind asB) (dtNot ((dCall (D_is_number) (aV (dBin fIx (oN 3) (oV (dC (.int 2)))) (aV (dC (.int 0)) (aV (dFx (xFn fLen (aO (oN 2) aNil))) aNil)))).bind asB))) (sRet (dC (.bool false))) sNil)
  (sIf ((dBin fEq (oN 6) (oV (dC (.str "take")))).bind asB) (sRet (dAnd (dBin fLt (oV (dBin fIx (oN 3) (oV (dC (.int 2))))) (oV (dFx (xFn fLen (aO (oN 2) aNil))))) (dBin fEq (oV (dBin fIx (oN 2) (oV (dBin fIx (oN 3) (oV (dC (.int 2))))))) (oV (dBin fIx (oN 3) (oV (dC (.int 1)))))))) sNil)) sNil)
  (sSeq (sIf ((dBin fEq (oN 6) (oV (dC (.str "chop")))).bind asB) (sRet (dAnd (dFx (xFn fBool (aO (oN 2) aNil))) (dBin fEq (oV (dBin fIx (oN 2) (oV (dNeg (dC (.int 1)))))) (oV (dBin fIx (oN 3) (oV (dC (.int 1)))))))) sNil)
  (sSeq (sIf ((dBin fEq (oN 6) (oV (dC (.str "behead")))).bind asB) (sRet (dAnd (dFx (xFn fBool (aO (oN 2) aNil))) (dBin fEq (oV (dBin fIx (oN 2) (oV (dC (.int 0))))) (oV (dBin fIx (oN 3) (oV (dC (.int 1)))))))) sNil)
  (sRet (dOr (dBin fEq (oN 6) (oV (dC (.str "turn")))) (dBin fLt (oV (dFx (xFn fLen (aO (oN 2) aNil)))) (oV (dC con_MOST_TEXT))))))))))))
def D_first_wrong_edit : M PyData := fnOf 3 6 (sSeq (sSetX 3 (xV (dTup aNil)))
  (sSeq (sFor (aBind (aV (dVar 2) aNil) iEnum) (gT (gLen 2 (gsC (gN 4) (gsC (gN 5) gsN)))) (sSeq (sIf (dtNot ((dCall (D_is_edit) (aV (dVar 0) (aV (dVar 1) (aV (dVar 3) (aV (dVar 5) aNil))))).bind asB)) (sRet (dTup (aV (dVar 3) (aV (dVar 4) aNil)))) sNil)
  (sSetX 3 (xV (dCall (D_done) (aV (dVar 0) (aV (dVar 3) (aV (dVar 5) aNil))))))))
  (sRet (dTup (aV (dVar 3) (aV (dC .none) aNil))))))
def D_need_edits : M PyData := fnOf 3 5 (sSeq (sIf (dtOr (dtNot ((dIsi "tuple" (oN 2)).bind asB)) ((dBin fGt (oV (dFx (xFn fLen (aO (oN 2) aNil)))) (oV (dC con_MOST_EDITS))).bind asB)) (sRaise1 "BadEdits" "index" (dC .none)) sNil)
  (sSeq (sAsg (dCall (D_first_wrong_edit) (aV (dVar 0) (aV (dVar 1) (aV (dVar 2) aNil)))) (gT (gLen 2 (gsC (gN 3) (gsC (gN 4) gsN)))))
  (sSeq (sIf ((dBin fIsNot (oN 4) (oV (dC .none))).bind asB) (sRaise1 "BadEdits" "index" (dVar 4)) sNil)
  (sRet (dVar 3)))))
def D_text_after : M PyData := fnOf 3 3 (sSeq (sDrop (dCall (D_need_world) (aV (dVar 0) aNil)))
  (sSeq (sDrop (dCall (D_need_letters) (aV (dVar 1) aNil)))
  (sRet (dCall (D_need_edits) (aV (dVar 0) (aV (dVar 1) (aV (dVar 2) aNil)))))))
def D_message_of : M PyData := fnOf 2 2 (sRet (dFx (xIf ((dBin (fIn false) (oN 0) (oV (dC con_HIDDEN))).bind asB) (xSl (oN 1) pNo (pAt (dC (.int 2)))) (xV (dVar 1)))))
def D_told : M PyData := fnOf 3 4 (sSeq (sDrop (dCall (D_need_world) (aV (dVar 0) aNil)))
  (sSeq (sDrop (dCall (D_need_letters) (aV (dVar 1) aNil)))
  (sSeq (sDrop (dCall (D_need_edits) (aV (dVar 0) (aV (dVar 1) (aV (dVar 2) aNil)))))
  (sRet (dFx (xFn fTuple (aO (oV (dFz (lLc [3] (iSeq (dVar 2)) (gN 3) tYesD (dCall (D_message_of) (aV (dVar 0) (aV (dVar 3) aNil)))))) aNil)))))))
def D_law : M PyData := fnOf 1 18 (sSeq (sSetX 1 (xL (lLst (aV (dVar 0) (aV (dC (.int 0)) (aV (dC (.int 1002)) (aV (dC (.int 0)) aNil)))))))
  (sSeq (sPar [2, 3] (axCons (xV (dCall (D__law_world) (aIo 1 aNil))) (axCons (xBin fAdd (oV (dC (.int 1))) (oV (dCall (D__law_taken) (aIo 1 (aV (dC (.int 3)) aNil))))) axNil)))
  (sSeq (sIf (dtNot ((dCall (D__law_alike 6) (aV (dCall (D_messages) (aV (dVar 2) (aV (dVar 3) aNil))) (aV (dFx (xFn fTuple (aO (oV (dCall (D__law_messages) (aV (dVar 2) (aV (dVar 3) aNil)))) aNil))) aNil))).bind asB)) (sRet (dC (.bool false))) sNil)
  (sSeq (sAsg (dCall (D__law_history) (aIo 1 (aV (dVar 2) (aV (dVar 3) (aV (dCall (D__law_taken) (aIo 1 (aV (dC (.int 20)) aNil))) aNil))))) (gT (gLen 2 (gsC (gN 4) (gsC (gN 5) gsN)))))
  (sSeq (sIf (dtNot ((dCall (D__law_alike 6) (aV (dCall (D_text_after) (aV (dVar 2) (aV (dVar 3) (aV (dVar 4) aNil)))) (aV (dBin fIx (oN 5) (oV (dNeg (dC (.int 1))))) aNil))).bind asB)) (sRet (dC (.bool false))) sNil)
  (sSeq (sIf (dtNot ((dCall (D__law_alike 6) (aV (dCall (D_told) (aV (dVar 2) (aV (dVar 3) (aV (dVar 4) aNil)))) (aV (dFx (xFn fTuple (aO (oV (dCall (D__law_said) (aV (dVar 2) (aV (dVar 4) aNil)))) aNil))) aNil))).bind asB)) (sRet (dC (.bool false))) sNil)
  (sSeq (sSetX 6 (xL (lLst (aV (dTup (aV (dC (.str "put")) (aV (dC (.int 0)) aNil))) (aV (dTup (aV (dC (.str "put")) (aV (dC (.int 0)) (aV (dC (.int 0)) aNil)))) (aV (dTup (aV (dC (.str "front")) (aV (dC (.int 0)) aNil))) (aV (dTup (aV (dC (.str "chop")) (aV (dC (.int 0)) aNil))) (aV (dTup (aV (dC (.str "behead")) (aV (dC (.int 0)) aNil))) (aV (dTup (aV (dC (.str "take")) (aV (dC (.int 0)) (aV (dC (.int 0)) aNil)))) (aV (dTup (aV (dC (.str "turn")) aNil)) aNil))))))))))
  (sSeq (sSetX 6 (xBin fAdd (oN 6) (oV (dFz (lLst (aV (dTup (aV (dC (.str "put")) (aV (dVar 3) aNil))) (aV (dTup (aV (dC (.str "put")) (aV (dC (.bool true)) aNil))) (aV (dTup (aV (dC (.str "put")) (aV (dC (.int 0)) (aV (dC (.int 99)) aNil)))) (aV (dTup (aV (dC (.str "take")) (aV (dC (.int 0)) (aV (dC (.int 99)) aNil)))) (aV (dC .none) (aV (dTup aNil) (aV (dFz (lLst (aV (dC (.str "put")) (aV (dC (.int 0)) aNil)))) aNil))))))))))))
  (sSeq (sSetX 6 (xBin fAdd (oN 6) (oV (dFz (lLst (aV (dTup (aV (dC (.str "turn")) (aV (dFz (lLst (aV (dC (.int 0)) aNil))) aNil))) (aV (dC (.str "put")) (aV (dTup (aV (dC (.str "turn")) (aV (dTup (aV (dC (.int 0)) aNil)) aNil))) aNil))))))))
  (sSeq (sSetX 6 (xBin fAdd (oN 6) (oV (dFz (lLst (aV (dTup (aV (dC (.str "turn")) (aV (dTup (aV (dC (.int 1)) (aV (dC (.int 0)) aNil))) aNil))) (aV (dTup (aV (dC (.str "turn")) (aV (dTup (aV (dC (.int 0)) (aV (dC (.int 0)) aNil))) aNil))) (aV (dTup (aV (dC (.str "Put")) (aV (dC (.int 0)) aNil))) (aV (dTup (aV (dC (.str "put")) (aV (dBin fSub (oV (dC (.int 0))) (oV (dC (.int 1)))) aNil))) (aV (dTup (aV (dC (.str "put")) (aV (dC (.int 0)) (aV (dC (.bool true)) aNil)))) (aV (dTup (aV (dC (.str "put")) aNil)) aNil)))))))))))
  (sSeq (sFor (aBind (aV (dC (.int 6)) aNil) iRange1) (gN 7) (sSeq (sPar [8, 9] (axCons (xV (dCall (D__law_taken) (aIo 1 (aV (dFx (xBin fAdd (oV (dFx (xFn fLen (aO (oN 4) aNil)))) (oV (dC (.int 1))))) aNil)))) (axCons (xV (dCall (D__law_pick) (aIo 1 (aV (dVar 6) aNil)))) axNil)))
  (sSeq (sPar [10, 11, 12] (axCons (xBin fAdd (oV (dFx (xBin fAdd (oV (dFx (xSl (oN 4) pNo (pAt (dVar 8))))) (oV (dTup (aV (dVar 9) aNil)))))) (oV (dFx (xSl (oN 4) (pAt (dVar 8)) pNo)))) (axCons (xV (dTup aNil)) (axCons (xV (dC .none)) axNil))))
  (sSeq (sFor (aBind (aV (dVar 10) aNil) iEnum) (gT (gLen 2 (gsC (gN 13) (gsC (gN 14) gsN)))) (sIf ((dBin fIs (oN 12) (oV (dC .none))).bind asB) (sSeq (sSetX 16 (xV (dBin fNe (oV (dFz (lLc [17] (iSeq (dCall (D__law_edits) (aV (dVar 2) (aV (dVar 3) (aV (dVar 11) aNil))))) (gN 17) ((dCall (D__law_alike 6) (aV (dVar 14) (aV (dVar 17) aNil))).bind asB) (dVar 17)))) (oV (dFz (lLst aNil))))))
  (sSeq (sSetX 12 (xV (dIf ((dVar 16).bind asB) (dC .none) (dVar 13))))
  (sSetX 11 (xV (dIf ((dVar 16).bind asB) (dCall (D__law_done) (aV (dVar 2) (aV (dVar 11) (aV (dVar 14) aNil)))) (dVar 11)))))) sNil))
  (sSeq (sSetX 15 (xIf ((dBin fIs (oN 12) (oV (dC .none))).bind asB) (xV (dVar 11)) (xL (lLst (aV (dC (.str "wrong")) (aV (dVar 12) aNil))))))
  (sIf (dtNot ((dCall (D__law_alike 6) (aV (dTold "BadEdits" "index" "wrong" (dCall (D_text_after) (aV (dVar 2) (aV (dVar 3) (aV (dVar 10) aNil))))) (aV (dVar 15) aNil))).bind asB)) (sRet (dC (.bool false))) sNil))))))
  (sRet (dC (.bool true))))))))))))))
end K02

end
section
/-! printed by pr.py: that the defs compute that -/
namespace K02
open PySem PySem.Spec PyProof.Rows L2 TW
def top (i : Nat) : Stmt := PySem.Challenge.pw_toldwhat_k02_whole_worlds.main.body.getD i (.Pass ⟨0, 0, 0, 0⟩)
def cdef (i : Nat) : Stmt := match top i with
  | .ClassDef _ _ _ b _ _ _ _ _ _ _ => b.getD 0 (.Pass ⟨0, 0, 0, 0⟩)
  | _ => .Pass ⟨0, 0, 0, 0⟩
structure Gd where
  f__law_alike : Addr
  d__law_alike : FuncData
  f__law_done : Addr
  d__law_done : FuncData
  f__law_orders : Addr
  d__law_orders : FuncData
  f__law_messages : Addr
  d__law_messages : FuncData
  f__law_edits : Addr
  d__law_edits : FuncData
  f__law_taken : Addr
  d__law_taken : FuncData
  f__law_pick : Addr
  d__law_pick : FuncData
  f__law_history : Addr
  d__law_history : FuncData
  f__law_said : Addr
  d__law_said : FuncData
  f__law_told : Addr
  d__law_told : FuncData
  f__law_world : Addr
  d__law_world : FuncData
  f_orders : Addr
  d_orders : FuncData
  f_all_messages : Addr
  d_all_messages : FuncData
  f_is_number : Addr
  d_is_number : FuncData
  f_need_letters : Addr
  d_need_letters : FuncData
  f_need_world : Addr
  d_need_world : FuncData
  f_messages : Addr
  d_messages : FuncData
  f_done : Addr
  d_done : FuncData
  f_is_like : Addr
  d_is_like : FuncData
  f_is_edit : Addr
  d_is_edit : FuncData
  f_first_wrong_edit : Addr
  d_first_wrong_edit : FuncData
  f_need_edits : Addr
  d_need_edits : FuncData
  f_text_after : Addr
  d_text_after : FuncData
  f_message_of : Addr
  d_message_of : FuncData
  f_told : Addr
  d_told : FuncData
  f_law : Addr
  d_law : FuncData
  c_is_like : Addr
  p_is_like : Addr
  c_is_edit : Addr
  p_is_edit : Addr
  c_law : Addr
  p_law : Addr
  C_BadEdits : Addr
  I_BadEdits : Addr
  dI_BadEdits : FuncData
  K_KeeperError : Addr
def lq_law : Str := (("law" : Str) ++ (".<locals>." : Str)) ++ ("<lambda>" : Str)
def Gd.tg (g : Gd) : List TbK := [⟨g.p_is_like, none⟩, ⟨g.p_is_edit, none⟩, ⟨g.p_law, some lq_law⟩]
structure GOk (K : PySem.W.Frag) (mg : Str → Option Value) (base : Heap) (w : World) (g : Gd) : Prop where
  F__law_alike : FunD K "_law_alike" "_law_alike" (defArgs (top 31)) (defBody (top 31)) (defScope (top 31)) [] [] g.f__law_alike g.d__law_alike
  m__law_alike : mg "_law_alike" = some (.ref g.f__law_alike)
  F__law_done : FunD K "_law_done" "_law_done" (defArgs (top 35)) (defBody (top 35)) (defScope (top 35)) [] [] g.f__law_done g.d__law_done
  m__law_done : mg "_law_done" = some (.ref g.f__law_done)
  F__law_orders : FunD K "_law_orders" "_law_orders" (defArgs (top 32)) (defBody (top 32)) (defScope (top 32)) [] [] g.f__law_orders g.d__law_orders
  m__law_orders : mg "_law_orders" = some (.ref g.f__law_orders)
  F__law_messages : FunD K "_law_messages" "_law_messages" (defArgs (top 33)) (defBody (top 33)) (defScope (top 33)) [] [] g.f__law_messages g.d__law_messages
  m__law_messages : mg "_law_messages" = some (.ref g.f__law_messages)
  F__law_edits : FunD K "_law_edits" "_law_edits" (defArgs (top 34)) (defBody (top 34)) (defScope (top 34)) [] [] g.f__law_edits g.d__law_edits
  m__law_edits : mg "_law_edits" = some (.ref g.f__law_edits)
  F__law_taken : FunD K "_law_taken" "_law_taken" (defArgs (top 28)) (defBody (top 28)) (defScope (top 28)) [] [] g.f__law_taken g.d__law_taken
  m__law_taken : mg "_law_taken" = some (.ref g.f__law_taken)
  F__law_pick : FunD K "_law_pick" "_law_pick" (defArgs (top 29)) (defBody (top 29)) (defScope (top 29)) [] [] g.f__law_pick g.d__law_pick
  m__law_pick : mg "_law_pick" = some (.ref g.f__law_pick)
  F__law_history : FunD K "_law_history" "_law_history" (defArgs (top 36)) (defBody (top 36)) (defScope (top 36)) [] [] g.f__law_history g.d__law_history
  m__law_history : mg "_law_history" = some (.ref g.f__law_history)
  F__law_said : FunD K "_law_said" "_law_said" (defArgs (top 37)) (defBody (top 37)) (defScope (top 37)) [] [] g.f__law_said g.d__law_said
  m__law_said : mg "_law_said" = some (.ref g.f__law_said)
  F__law_told : FunD K "_law_told" "_law_told" (defArgs (top 38)) (defBody (top 38)) (defScope (top 38)) [] [] g.f__law_told g.d__law_told
  m__law_told : mg "_law_told" = some (.ref g.f__law_told)
  F__law_world : FunD K "_law_world" "_law_world" (defArgs (top 30)) (defBody (top 30)) (defScope (top 30)) [] [] g.f__law_world g.d__law_world
  m__law_world : mg "_law_world" = some (.ref g.f__law_world)
  F_orders : FunD K "orders" "orders" (defArgs (top 15)) (defBody (top 15)) (defScope (top 15)) [] [] g.f_orders g.d_orders
  m_orders : mg "orders" = some (.ref g.f_orders)
  F_all_messages : FunD K "all_messages" "all_messages" (defArgs (top 16)) (defBody (top 16)) (defScope (top 16)) [] [] g.f_all_messages g.d_all_messages
  m_all_messages : mg "all_messages" = some (.ref g.f_all_messages)
  F_is_number : FunD K "is_number" "is_number" (defArgs (top 8)) (defBody (top 8)) (defScope (top 8)) [] [] g.f_is_number g.d_is_number
  m_is_number : mg "is_number" = some (.ref g.f_is_number)
  F_need_letters : FunD K "need_letters" "need_letters" (defArgs (top 18)) (defBody (top 18)) (defScope (top 18)) [] [] g.f_need_letters g.d_need_letters
  m_need_letters : mg "need_letters" = some (.ref g.f_need_letters)
  F_need_world : FunD K "need_world" "need_world" (defArgs (top 14)) (defBody (top 14)) (defScope (top 14)) [] [] g.f_need_world g.d_need_world
  m_need_world : mg "need_world" = some (.ref g.f_need_world)
  F_messages : FunD K "messages" "messages" (defArgs (top 26)) (defBody (top 26)) (defScope (top 26)) [] [] g.f_messages g.d_messages
  m_messages : mg "messages" = some (.ref g.f_messages)
  F_done : FunD K "done" "done" (defArgs (top 21)) (defBody (top 21)) (defScope (top 21)) [] [] g.f_done g.d_done
  m_done : mg "done" = some (.ref g.f_done)
  F_is_like : FunD K "is_like" "is_like" (defArgs (top 19)) (defBody (top 19)) (defScope (top 19)) [] [] g.f_is_like g.d_is_like
  m_is_like : mg "is_like" = some (.ref g.f_is_like)
  F_is_edit : FunD K "is_edit" "is_edit" (defArgs (top 20)) (defBody (top 20)) (defScope (top 20)) [] [] g.f_is_edit g.d_is_edit
  m_is_edit : mg "is_edit" = some (.ref g.f_is_edit)
  F_first_wrong_edit : FunD K "first_wrong_edit" "first_wrong_edit" (defArgs (top 22)) (defBody (top 22)) (defScope (top 22)) [] [] g.f_first_wrong_edit g.d_first_wrong_edit
  m_first_wrong_edit : mg "first_wrong_edit" = some (.ref g.f_first_wrong_edit)
  F_need_edits : FunD K "need_edits" "need_edits" (defArgs (top 23)) (defBody (top 23)) (defScope (top 23)) [] [] g.f_need_edits g.d_need_edits
  m_need_edits : mg "need_edits" = some (.ref g.f_need_edits)
  F_text_after : FunD K "text_after" "text_after" (defArgs (top 24)) (defBody (top 24)) (defScope (top 24)) [] [] g.f_text_after g.d_text_after
  m_text_after : mg "text_after" = some (.ref g.f_text_after)
  F_message_of : FunD K "message_of" "message_of" (defArgs (top 17)) (defBody (top 17)) (defScope (top 17)) [] [] g.f_message_of g.d_message_of
  m_message_of : mg "message_of" = some (.ref g.f_message_of)
  F_told : FunD K "told" "told" (defArgs (top 25)) (defBody (top 25)) (defScope (top 25)) [] [] g.f_told g.d_told
  m_told : mg "told" = some (.ref g.f_told)
  F_law : FunD K "law" "law" (defArgs (top 39)) (defBody (top 39)) (defScope (top 39)) [] [] g.f_law g.d_law
  m_law : mg "law" = some (.ref g.f_law)
  k_is_like : g.d_is_like.code = .ref g.c_is_like
  t_is_like : GxR.TabB base mg g.c_is_like g.p_is_like
  k_is_edit : g.d_is_edit.code = .ref g.c_is_edit
  t_is_edit : GxR.TabB base mg g.c_is_edit g.p_is_edit
  k_law : g.d_law.code = .ref g.c_law
  t_law : GxR.TabB base mg g.c_law g.p_law
  FI_BadEdits : FunD K "__init__" "BadEdits.__init__" (defArgs (cdef 3)) (defBody (cdef 3)) (defScope (cdef 3)) [] [] g.I_BadEdits g.dI_BadEdits
  x_BadEdits : XCls K mg "BadEdits" "index" g.C_BadEdits g.I_BadEdits
  is_BadEdits : XIs K g.C_BadEdits g.K_KeeperError
  m_KeeperError : mg "KeeperError" = some (.ref g.K_KeeperError)
  nd : (g.tg.map (·.P)).Nodup
  n_all : mg "all" = none
  n_any : mg "any" = none
  n_bool : mg "bool" = none
  n_enumerate : mg "enumerate" = none
  n_int : mg "int" = none
  n_isinstance : mg "isinstance" = none
  n_len : mg "len" = none
  n_list : mg "list" = none
  n_range : mg "range" = none
  n_sorted : mg "sorted" = none
  n_str : mg "str" = none
  n_tuple : mg "tuple" = none
  n_zip : mg "zip" = none
  con_HIDDEN : Con K mg "HIDDEN" con_HIDDEN
  con_MOST_EDITS : Con K mg "MOST_EDITS" con_MOST_EDITS
  con_MOST_LETTERS : Con K mg "MOST_LETTERS" con_MOST_LETTERS
  con_MOST_TEXT : Con K mg "MOST_TEXT" con_MOST_TEXT
  con_WORLDS : Con K mg "WORLDS" con_WORLDS
  tab_KINDS : KTab K w mg "KINDS" tab_KINDS
section
variable {P : Program} {w : World} {K : PySem.W.Frag} {mg : Str → Option Value} {base : Heap} {g : Gd}
theorem ru1 {k : Nat} {A : Around} (r : Room k A) : A.units + 1 < cLine := by have := r.un; omega
theorem ru {k : Nat} {A : Around} (r : Room k A) : A.units + 65 < cLine := by have := r.un; omega
theorem tg_is_like (h : GOk K mg base w g) : (⟨g.p_is_like, none⟩ : TbK) ∈ g.tg ∧ ∀ z ∈ g.tg, z.P = g.p_is_like → z.q = none := ⟨by simp [Gd.tg], fun z hz e => by
  have u := tb_uniq (y := ⟨g.p_is_like, none⟩) h.nd hz (by simp [Gd.tg]) e
  rw [u]⟩
theorem tg_is_edit (h : GOk K mg base w g) : (⟨g.p_is_edit, none⟩ : TbK) ∈ g.tg ∧ ∀ z ∈ g.tg, z.P = g.p_is_edit → z.q = none := ⟨by simp [Gd.tg], fun z hz e => by
  have u := tb_uniq (y := ⟨g.p_is_edit, none⟩) h.nd hz (by simp [Gd.tg]) e
  rw [u]⟩
theorem tg_law (h : GOk K mg base w g) : (⟨g.p_law, some lq_law⟩ : TbK) ∈ g.tg ∧ ∀ z ∈ g.tg, z.P = g.p_law → z.q = some lq_law := ⟨by simp [Gd.tg], fun z hz e => by
  have u := tb_uniq (y := ⟨g.p_law, some lq_law⟩) h.nd hz (by simp [Gd.tg]) e
  rw [u]⟩
theorem bi_init_BadEdits (h : GOk K mg base w g) : Binds K g.dI_BadEdits ["self", "index"] [] := h.FI_BadEdits.bindsN fun _ _ _ _ _ _ us hl => match us, hl with | [_, _], _ => rfl
theorem ok_init_BadEdits (h : GOk K mg base w g) : FnOk P w K mg base (L2.CX P w) 1 g.I_BadEdits g.dI_BadEdits ["self", "index"] (spInit K "index") := init_ok (k := 0) h.FI_BadEdits ⟨rfl, rfl, rfl, by decide +kernel, rfl, by decide +kernel, by decide +kernel⟩ (by first | exact .inl rfl | exact .inr (.inl rfl)) (by first | exact .inl rfl | exact .inr (.inl rfl))
theorem nd__law_alike : (["_law_found", "_law_due", "_law_k"] : List Str).Nodup := by decide +kernel
theorem sc__law_alike : FnScope ["_law_found", "_law_due", "_law_k"] ["_law_found", "_law_due"] (defScope (top 31)) := ⟨rfl, rfl, rfl, nd__law_alike, rfl, by decide +kernel, by decide +kernel⟩
theorem bi__law_alike (h : GOk K mg base w g) : Binds K g.d__law_alike ["_law_found", "_law_due"] [] := h.F__law_alike.bindsN fun _ _ _ _ _ _ us hl => match us, hl with | [_, _], _ => rfl
theorem len__law_alike : ∀ n sl, sl.length ≠ 2 → D__law_alike n sl = .st
  | 0, _, e => fnOf_len _ e
  | _ + 1, _, e => fnOf_len _ e
theorem ok__law_alike (h : GOk K mg base w g) : ∀ n, FnOk P w K mg base (L2.CX P w) (4 * n + 1) g.f__law_alike g.d__law_alike ["_law_found", "_law_due"] (SpOf K g.tg 2 (D__law_alike n))
  | 0 => (def_ok (h.F__law_alike) sc__law_alike rfl rfl fun cdv A outer s H E hr => dss_never : FnOk P w K mg base (L2.CX P w) (0 + 1) _ _ _ (SpOf K g.tg 2 (fnOf 2 3 .st)))
  | n + 1 => by
    have ih := ok__law_alike h n
    exact (def_ok (h.F__law_alike) sc__law_alike rfl rfl fun cdv A outer s H E hr => (dss_cons (ds_if (dt_val (de_isi2 isT_tuple isT_list (by rfl) h.n_isinstance (by rfl) h.n_tuple (by rfl) (by rfl) h.n_list (by rfl) (do_n (pv 1)))) (dss_cons (ds_if (dw_or (dt_not (dt_val (de_isi2 isT_tuple isT_list (by rfl) h.n_isinstance (by rfl) h.n_tuple (by rfl) (by rfl) h.n_list (by rfl) (do_n (pv 0))))) (dw_or1 (dc_ne (ru hr) (by rfl) (do_v (de_isi isT_list (by rfl) h.n_isinstance (by rfl) h.n_list (by rfl) (do_n (pv 0)))) (do_v (de_isi isT_list (by rfl) h.n_isinstance (by rfl) h.n_list (by rfl) (do_n (pv 1))))).vt)).dt (dss_one (ds_ret de_bl)) dss_nil)
  (dss_cons (ds_if (dc_ne (ru hr) (by rfl) (do_v (de_x (dx_len (by rfl) h.n_len (da_o (do_n (pv 0)) da_nil)))) (do_v (de_x (dx_len (by rfl) h.n_len (da_o (do_n (pv 1)) da_nil))))).vt (dss_one (ds_ret de_bl)) dss_nil)
  (dss_one (ds_ret (dc_eq (ru hr) (by rfl) (do_v (de_fz (dl_lc (own := [("_law_k", 2)]) (by rfl) nd__law_alike (di_range1 (by rfl) h.n_range (da_cons (de_x (dx_len (by rfl) h.n_len (da_o (do_n (pv 1)) da_nil))) da_nil)) (blkOk_by (by kernel_rfl)) (fun _ _ _ _ _ => (dg_name (pg_name nd__law_alike (by rfl) (by first | exact .inl rfl | exact .inr rfl)))) (fun _ _ _ _ _ => (dts_one (dt_not (dt_val (de_call ih (len__law_alike _) (hr.mono (by omega)) (by rfl) h.m__law_alike h.F__law_alike.kp (bi__law_alike h) Air.none (da_cons (de_ix (do_n (pv 0)) (do_n (pv 2)) (by intro _ _; rfl)) (da_cons (de_ix (do_n (pv 1)) (do_n (pv 2)) (by intro _ _; rfl)) da_nil))))))) (fun _ _ _ _ _ => (de_var (pv 2)))))) (do_v (de_fz (dl_lst da_nil)))).ve)))) dss_nil)
  (dss_cons (ds_if (dw_or (dc_is (by rfl) (do_n (pv 1)) (do_v de_non)).vt (dw_or1 (dt_val (de_isi isT_str (by rfl) h.n_isinstance (by rfl) h.n_str (by rfl) (do_n (pv 1)))))).dt (dss_one (ds_ret (de_and (dc_eq (ru hr) (by rfl) (do_n (pv 0)) (do_n (pv 1))).ve (de_one (dc_eq (ru hr) (by rfl) (do_v (de_isi isT_str (by rfl) h.n_isinstance (by rfl) h.n_str (by rfl) (do_n (pv 0)))) (do_v (de_isi isT_str (by rfl) h.n_isinstance (by rfl) h.n_str (by rfl) (do_n (pv 1))))).ve)))) dss_nil)
  (dss_one (ds_ret (de_and (de_isi isT_int (by rfl) h.n_isinstance (by rfl) h.n_int (by rfl) (do_n (pv 0))) (de_and (dc_eq (ru hr) (by rfl) (do_v (de_isi isT_bool (by rfl) h.n_isinstance (by rfl) h.n_bool (by rfl) (do_n (pv 0)))) (do_v (de_isi isT_bool (by rfl) h.n_isinstance (by rfl) h.n_bool (by rfl) (do_n (pv 1))))).ve (de_one (dc_eq (ru hr) (by rfl) (do_n (pv 0)) (do_n (pv 1))).ve))))))) : FnOk P w K mg base (L2.CX P w) ((4 * n + 4) + 1) _ _ _ (SpOf K g.tg 2 (D__law_alike (n + 1))))
theorem nd__law_done : (["_law_world_here", "_law_text", "_law_edit", "_law_letter", "_law_place"] : List Str).Nodup := by decide +kernel
theorem sc__law_done : FnScope ["_law_world_here", "_law_text", "_law_edit", "_law_letter", "_law_place"] ["_law_world_here", "_law_text", "_law_edit"] (defScope (top 35)) := ⟨rfl, rfl, rfl, nd__law_done, rfl, by decide +kernel, by decide +kernel⟩
theorem bi__law_done (h : GOk K mg base w g) : Binds K g.d__law_done ["_law_world_here", "_law_text", "_law_edit"] [] := h.F__law_done.bindsN fun _ _ _ _ _ _ us hl => match us, hl with | [_, _, _], _ => rfl
theorem len__law_done (sl : List Sl) (e : sl.length ≠ 3) : D__law_done sl = .st := fnOf_len _ e
theorem ok__law_done (h : GOk K mg base w g) : FnOk P w K mg base (L2.CX P w) 1 g.f__law_done g.d__law_done ["_law_world_here", "_law_text", "_law_edit"] (SpOf K g.tg 3 D__law_done) :=
  def_ok (k := 0) (h.F__law_done) sc__law_done rfl rfl fun cdv A outer s H E hr => (dss_cons (ds_if (dw_and (dc_eq (ru hr) (by rfl) (do_n (pv 0)) (do_v de_str)).vt (dw_and1 (dc_eq (ru hr) (by rfl) (do_v (de_ix (do_n (pv 2)) (do_v de_int) (by intro _ _; rfl))) (do_v de_str)).vt)).dt (dss_one (ds_ret (de_x (dx_tuple (by rfl) h.n_tuple (da_o (do_v (de_fz (dl_lc (own := [("_law_letter", 3)]) (by rfl) nd__law_done (di_seq (de_var (pv 1))) (blkOk_by (by kernel_rfl)) (fun _ _ _ _ _ => (dg_name (pg_name nd__law_done (by rfl) (by first | exact .inl rfl | exact .inr rfl)))) (fun _ _ _ _ _ => dts_nil) (fun _ _ _ _ _ => (de_ix (do_v (de_ix (do_n (pv 2)) (do_v de_int) (by intro _ _; rfl))) (do_n (pv 3)) (by intro _ _; rfl)))))) da_nil))))) dss_nil)
  (dss_cons (ds_if (dc_eq (ru hr) (by rfl) (do_v (de_ix (do_n (pv 2)) (do_v de_int) (by intro _ _; rfl))) (do_v de_str)).vt (dss_one (ds_ret (de_revT (de_var (pv 1))))) dss_nil)
  (dss_cons (ds_if (dc_in (ru hr) (by rfl) (do_v (de_ix (do_n (pv 2)) (do_v de_int) (by intro _ _; rfl))) (do_v (de_fz (dl_lst (da_cons de_str (da_cons de_str da_nil)))))).vt (dss_one (ds_ret (de_x (dx_if (dc_eq (ru hr) (by rfl) (do_v (de_ix (do_n (pv 2)) (do_v de_int) (by intro _ _; rfl))) (do_v de_str)).vt (dx_sl (do_n (pv 1)) dp_no (dp_at (de_neg de_int))) (dx_sl (do_n (pv 1)) (dp_at de_int) dp_no))))) dss_nil)
  (dss_cons (ds_if (dc_eq (ru hr) (by rfl) (do_v (de_ix (do_n (pv 2)) (do_v de_int) (by intro _ _; rfl))) (do_v de_str)).vt (dss_one (ds_ret (de_x (dx_add (do_v (de_x (dx_sl (do_n (pv 1)) dp_no (dp_at (de_ix (do_n (pv 2)) (do_v de_int) (by intro _ _; rfl)))))) (do_v (de_x (dx_sl (do_n (pv 1)) (dp_at (de_x (dx_add (do_v (de_ix (do_n (pv 2)) (do_v de_int) (by intro _ _; rfl))) (do_v de_int)))) dp_no))))))) dss_nil)
  (dss_cons (ds_setN (i := 4) nd__law_done (by rfl) (by first | exact .inl rfl | exact .inr rfl) (dx_if (dc_eq (ru hr) (by rfl) (do_v (de_ix (do_n (pv 2)) (do_v de_int) (by intro _ _; rfl))) (do_v de_str)).vt (dx_len (by rfl) h.n_len (da_o (do_n (pv 1)) da_nil)) (dx_v de_int)) (by rfl) (by first | exact .inl rfl | exact .inr rfl))
  (dss_cons (ds_if (dc_in (ru hr) (by rfl) (do_n (pv 0)) (do_v (de_fz (dl_lst (da_cons de_str (da_cons de_str da_nil)))))).vt (dss_one (ds_setN (i := 4) nd__law_done (by rfl) (by first | exact .inl rfl | exact .inr rfl) (dx_v (de_ix (do_n (pv 2)) (do_v de_int) (by intro _ _; rfl))) (by rfl) (by first | exact .inl rfl | exact .inr rfl))) dss_nil)
  (dss_one (ds_ret (de_x (dx_add (do_v (de_x (dx_add (do_v (de_x (dx_sl (do_n (pv 1)) dp_no (dp_at (de_var (pv 4)))))) (do_v (de_tup (da_cons (de_ix (do_n (pv 2)) (do_v de_int) (by intro _ _; rfl)) da_nil)))))) (do_v (de_x (dx_sl (do_n (pv 1)) (dp_at (de_var (pv 4))) dp_no)))))))))))))
theorem nd__law_orders : (["_law_many", "_law_found", "_law_turn", "_law_longer", "_law_row", "_law_one"] : List Str).Nodup := by decide +kernel
theorem sc__law_orders : FnScope ["_law_many", "_law_found", "_law_turn", "_law_longer", "_law_row", "_law_one"] ["_law_many"] (defScope (top 32)) := ⟨rfl, rfl, rfl, nd__law_orders, rfl, by decide +kernel, by decide +kernel⟩
theorem bi__law_orders (h : GOk K mg base w g) : Binds K g.d__law_orders ["_law_many"] [] := h.F__law_orders.bindsN fun _ _ _ _ _ _ us hl => match us, hl with | [_], _ => rfl
theorem len__law_orders (sl : List Sl) (e : sl.length ≠ 1) : D__law_orders sl = .st := fnOf_len _ e
theorem ok__law_orders (h : GOk K mg base w g) : FnOk P w K mg base (L2.CX P w) 1 g.f__law_orders g.d__law_orders ["_law_many"] (SpOf K g.tg 1 D__law_orders) :=
  def_ok (k := 0) (h.F__law_orders) sc__law_orders rfl rfl fun cdv A outer s H E hr => (dss_cons (ds_setN (i := 1) nd__law_orders (by rfl) (by first | exact .inl rfl | exact .inr rfl) (dx_l (dl_lst (da_cons (de_tup da_nil) da_nil))) (by rfl) (by first | exact .inl rfl | exact .inr rfl))
  (dss_cons (ds_for passes_def (by rfl) (di_range1 (by rfl) h.n_range (da_cons (de_var (pv 0)) da_nil)) (dg_name (pg_name nd__law_orders (by rfl) (by first | exact .inl rfl | exact .inr rfl))) (dss_cons (ds_setN (i := 3) nd__law_orders (by rfl) (by first | exact .inl rfl | exact .inr rfl) (dx_l (dl_lst da_nil)) (by rfl) (by first | exact .inl rfl | exact .inr rfl))
  (dss_cons (ds_for passes_def (by rfl) (di_seq (de_var (pv 1))) (dg_name (pg_name nd__law_orders (by rfl) (by first | exact .inl rfl | exact .inr rfl))) (dss_one (ds_setN (i := 3) nd__law_orders (by rfl) (by first | exact .inl rfl | exact .inr rfl) (dx_add (do_n (pv 3)) (do_v (de_fz (dl_lc (own := [("_law_one", 5)]) (by rfl) nd__law_orders (di_range1 (by rfl) h.n_range (da_cons (de_var (pv 0)) da_nil)) (blkOk_by (by kernel_rfl)) (fun _ _ _ _ _ => (dg_name (pg_name nd__law_orders (by rfl) (by first | exact .inl rfl | exact .inr rfl)))) (fun _ _ _ _ _ => (dts_one (dc_notin (ru hr) (by rfl) (do_n (pv 5)) (do_n (pv 4))).vt)) (fun _ _ _ _ _ => (de_x (dx_add (do_n (pv 4)) (do_v (de_tup (da_cons (de_var (pv 5)) da_nil)))))))))) (by rfl) (by first | exact .inl rfl | exact .inr rfl))))
  (dss_one (ds_setN (i := 1) nd__law_orders (by rfl) (by first | exact .inl rfl | exact .inr rfl) (dx_v (de_var (pv 3))) (by rfl) (by first | exact .inl rfl | exact .inr rfl))))))
  (dss_one (ds_ret (de_x (dx_sorted (ru hr) (by rfl) h.n_sorted (da_o (do_n (pv 1)) da_nil)))))))
theorem nd__law_messages : (["_law_world_here", "_law_letters", "_law_kinds", "_law_found", "_law_kind", "_law_letter", "_law_order"] : List Str).Nodup := by decide +kernel
theorem sc__law_messages : FnScope ["_law_world_here", "_law_letters", "_law_kinds", "_law_found", "_law_kind", "_law_letter", "_law_order"] ["_law_world_here", "_law_letters"] (defScope (top 33)) := ⟨rfl, rfl, rfl, nd__law_messages, rfl, by decide +kernel, by decide +kernel⟩
theorem bi__law_messages (h : GOk K mg base w g) : Binds K g.d__law_messages ["_law_world_here", "_law_letters"] [] := h.F__law_messages.bindsN fun _ _ _ _ _ _ us hl => match us, hl with | [_, _], _ => rfl
theorem len__law_messages (sl : List Sl) (e : sl.length ≠ 2) : D__law_messages sl = .st := fnOf_len _ e
theorem ok__law_messages (h : GOk K mg base w g) : FnOk P w K mg base (L2.CX P w) 2 g.f__law_messages g.d__law_messages ["_law_world_here", "_law_letters"] (SpOf K g.tg 2 D__law_messages) :=
  def_ok (k := 1) (h.F__law_messages) sc__law_messages rfl rfl fun cdv A outer s H E hr => (dss_cons (ds_setN (i := 2) nd__law_messages (by rfl) (by first | exact .inl rfl | exact .inr rfl) (dx_v (de_disp (dps_cons (de_fz (dl_lst (da_cons de_str da_nil))) (dps_cons (de_fz (dl_lst (da_cons de_str da_nil))) (dps_cons (de_fz (dl_lst (da_cons de_str (da_cons de_str (da_cons de_str da_nil))))) (dps_cons (de_fz (dl_lst (da_cons de_str da_nil))) dps_nil)))) (by rfl) (by rfl) (by simp) (by decide) (by rfl) (by decide))) (by rfl) (by first | exact .inl rfl | exact .inr rfl))
  (dss_cons (ds_setN (i := 3) nd__law_messages (by rfl) (by first | exact .inl rfl | exact .inr rfl) (dx_l (dl_lst da_nil)) (by rfl) (by first | exact .inl rfl | exact .inr rfl))
  (dss_cons (ds_for passes_def (by rfl) (di_seq (de_x (dx_add (do_v (de_get2 (ru1 hr) (de_var (pv 2)) (de_var (pv 0)) (de_fz (dl_lst da_nil)) ⟨by rfl, by rfl, by rfl, by rfl⟩)) (do_v (de_fz (dl_lst (da_cons de_str da_nil))))))) (dg_name (pg_name nd__law_messages (by rfl) (by first | exact .inl rfl | exact .inr rfl))) (dss_one (ds_setN (i := 3) nd__law_messages (by rfl) (by first | exact .inl rfl | exact .inr rfl) (dx_add (do_n (pv 3)) (do_v (de_fz (dl_lc (own := [("_law_letter", 5)]) (by rfl) nd__law_messages (di_range1 (by rfl) h.n_range (da_cons (de_var (pv 1)) da_nil)) (blkOk_by (by kernel_rfl)) (fun _ _ _ _ _ => (dg_name (pg_name nd__law_messages (by rfl) (by first | exact .inl rfl | exact .inr rfl)))) (fun _ _ _ _ _ => dts_nil) (fun _ _ _ _ _ => (de_tup (da_cons (de_var (pv 4)) (da_cons (de_var (pv 5)) da_nil)))))))) (by rfl) (by first | exact .inl rfl | exact .inr rfl))))
  (dss_cons (ds_if (dc_eq (ru hr) (by rfl) (do_n (pv 0)) (do_v de_str)).vt (dss_one (ds_setN (i := 3) nd__law_messages (by rfl) (by first | exact .inl rfl | exact .inr rfl) (dx_add (do_n (pv 3)) (do_v (de_fz (dl_lc (own := [("_law_order", 6)]) (by rfl) nd__law_messages (di_seq (de_call (ok__law_orders h) len__law_orders (hr.mono (by omega)) (by rfl) h.m__law_orders h.F__law_orders.kp (bi__law_orders h) (Air.of (takes_def (CXx := L2.CX P w))) (da_cons (de_var (pv 1)) da_nil))) (blkOk_by (by kernel_rfl)) (fun _ _ _ _ _ => (dg_name (pg_name nd__law_messages (by rfl) (by first | exact .inl rfl | exact .inr rfl)))) (fun _ _ _ _ _ => dts_nil) (fun _ _ _ _ _ => (de_tup (da_cons de_str (da_cons (de_var (pv 6)) da_nil)))))))) (by rfl) (by first | exact .inl rfl | exact .inr rfl))) dss_nil)
  (dss_cons (ds_if (dc_eq (ru hr) (by rfl) (do_n (pv 0)) (do_v de_str)).vt (dss_one (ds_expr (de_append (pv 3) (da_cons (de_tup (da_cons de_str da_nil)) da_nil)))) dss_nil)
  (dss_one (ds_ret (de_x (dx_sorted (ru hr) (by rfl) h.n_sorted (da_o (do_n (pv 3)) da_nil))))))))))
theorem nd__law_edits : (["_law_world_here", "_law_letters", "_law_text", "_law_found", "_law_message", "_law_kind", "_law_place"] : List Str).Nodup := by decide +kernel
theorem sc__law_edits : FnScope ["_law_world_here", "_law_letters", "_law_text", "_law_found", "_law_message", "_law_kind", "_law_place"] ["_law_world_here", "_law_letters", "_law_text"] (defScope (top 34)) := ⟨rfl, rfl, rfl, nd__law_edits, rfl, by decide +kernel, by decide +kernel⟩
theorem bi__law_edits (h : GOk K mg base w g) : Binds K g.d__law_edits ["_law_world_here", "_law_letters", "_law_text"] [] := h.F__law_edits.bindsN fun _ _ _ _ _ _ us hl => match us, hl with | [_, _, _], _ => rfl
theorem len__law_edits (sl : List Sl) (e : sl.length ≠ 3) : D__law_edits sl = .st := fnOf_len _ e
theorem ok__law_edits (h : GOk K mg base w g) : FnOk P w K mg base (L2.CX P w) 3 g.f__law_edits g.d__law_edits ["_law_world_here", "_law_letters", "_law_text"] (SpOf K g.tg 3 D__law_edits) :=
  def_ok (k := 2) (h.F__law_edits) sc__law_edits rfl rfl fun cdv A outer s H E hr => (dss_cons (ds_setN (i := 3) nd__law_edits (by rfl) (by first | exact .inl rfl | exact .inr rfl) (dx_l (dl_lst da_nil)) (by rfl) (by first | exact .inl rfl | exact .inr rfl))
  (dss_cons (ds_for passes_def (by rfl) (di_seq (de_call (ok__law_messages h) len__law_messages (hr.mono (by omega)) (by rfl) h.m__law_messages h.F__law_messages.kp (bi__law_messages h) (Air.of (takes_def (CXx := L2.CX P w))) (da_cons (de_var (pv 0)) (da_cons (de_var (pv 1)) da_nil)))) (dg_name (pg_name nd__law_edits (by rfl) (by first | exact .inl rfl | exact .inr rfl))) (dss_cons (ds_setN (i := 5) nd__law_edits (by rfl) (by first | exact .inl rfl | exact .inr rfl) (dx_v (de_ix (do_n (pv 4)) (do_v de_int) (by intro _ _; rfl))) (by rfl) (by first | exact .inl rfl | exact .inr rfl))
  (dss_one (ds_if (dc_in (ru hr) (by rfl) (do_n (pv 0)) (do_v (de_fz (dl_lst (da_cons de_str (da_cons de_str da_nil)))))).vt (dss_one (ds_if (dc_eq (ru hr) (by rfl) (do_n (pv 5)) (do_v de_str)).vt (dss_one (ds_setN (i := 3) nd__law_edits (by rfl) (by first | exact .inl rfl | exact .inr rfl) (dx_add (do_n (pv 3)) (do_v (de_fz (dl_lc (own := [("_law_place", 6)]) (by rfl) nd__law_edits (di_range1 (by rfl) h.n_range (da_cons (de_x (dx_add (do_v (de_x (dx_len (by rfl) h.n_len (da_o (do_n (pv 2)) da_nil)))) (do_v de_int))) da_nil)) (blkOk_by (by kernel_rfl)) (fun _ _ _ _ _ => (dg_name (pg_name nd__law_edits (by rfl) (by first | exact .inl rfl | exact .inr rfl)))) (fun _ _ _ _ _ => dts_nil) (fun _ _ _ _ _ => (de_x (dx_add (do_n (pv 4)) (do_v (de_tup (da_cons (de_var (pv 6)) da_nil)))))))))) (by rfl) (by first | exact .inl rfl | exact .inr rfl))) (dss_one (ds_setN (i := 3) nd__law_edits (by rfl) (by first | exact .inl rfl | exact .inr rfl) (dx_add (do_n (pv 3)) (do_v (de_fz (dl_lc (own := [("_law_place", 6)]) (by rfl) nd__law_edits (di_range1 (by rfl) h.n_range (da_cons (de_x (dx_len (by rfl) h.n_len (da_o (do_n (pv 2)) da_nil))) da_nil)) (blkOk_by (by kernel_rfl)) (fun _ _ _ _ _ => (dg_name (pg_name nd__law_edits (by rfl) (by first | exact .inl rfl | exact .inr rfl)))) (fun _ _ _ _ _ => (dts_one (dc_eq (ru hr) (by rfl) (do_v (de_ix (do_n (pv 2)) (do_n (pv 6)) (by intro _ _; rfl))) (do_v (de_ix (do_n (pv 4)) (do_v de_int) (by intro _ _; rfl)))).vt)) (fun _ _ _ _ _ => (de_x (dx_add (do_n (pv 4)) (do_v (de_tup (da_cons (de_var (pv 6)) da_nil)))))))))) (by rfl) (by first | exact .inl rfl | exact .inr rfl))))) (dss_one (ds_if (dw_or (dw_and (dc_eq (ru hr) (by rfl) (do_n (pv 5)) (do_v de_str)).vt (dw_and1 (dc_eq (ru hr) (by rfl) (do_v (de_x (dx_sl (do_n (pv 2)) (dp_at (de_neg de_int)) dp_no))) (do_v (de_tup (da_cons (de_ix (do_n (pv 4)) (do_v de_int) (by intro _ _; rfl)) da_nil)))).vt)).dt (dw_or1 (dw_and (dc_eq (ru hr) (by rfl) (do_n (pv 5)) (do_v de_str)).vt (dw_and1 (dc_eq (ru hr) (by rfl) (do_v (de_x (dx_sl (do_n (pv 2)) dp_no (dp_at de_int)))) (do_v (de_tup (da_cons (de_ix (do_n (pv 4)) (do_v de_int) (by intro _ _; rfl)) da_nil)))).vt)).dt)).dt (dss_one (ds_expr (de_append (pv 3) (da_cons (de_var (pv 4)) da_nil)))) (dss_one (ds_if (dc_notin (ru hr) (by rfl) (do_n (pv 5)) (do_v (de_fz (dl_lst (da_cons de_str (da_cons de_str da_nil)))))).vt (dss_one (ds_expr (de_append (pv 3) (da_cons (de_var (pv 4)) da_nil)))) dss_nil))))))))
  (dss_one (ds_ret (de_var (pv 3))))))
theorem nd__law_taken : (["_law_row", "_law_many", "_law_found", "_law_cell"] : List Str).Nodup := by decide +kernel
theorem sc__law_taken : FnScope ["_law_row", "_law_many", "_law_found", "_law_cell"] ["_law_row", "_law_many"] (defScope (top 28)) := ⟨rfl, rfl, rfl, nd__law_taken, rfl, by decide +kernel, by decide +kernel⟩
theorem bi__law_taken (h : GOk K mg base w g) : Binds K g.d__law_taken ["_law_row", "_law_many"] [] := h.F__law_taken.bindsN fun _ _ _ _ _ _ us hl => match us, hl with | [_, _], _ => rfl
theorem len__law_taken (sl : List Sl) (e : sl.length ≠ 2) : D__law_taken sl = .st := fnOf_len _ e
theorem ok__law_taken (h : GOk K mg base w g) : FnOk P w K mg base (L2.CX P w) 1 g.f__law_taken g.d__law_taken ["_law_row", "_law_many"] (SpOf K g.tg 2 D__law_taken) :=
  def_ok (k := 0) (h.F__law_taken) sc__law_taken rfl rfl fun cdv A outer s H E hr => (dss_cons (ds_if (dc_gt (by rfl) (do_v (de_ix (do_n (pv 0)) (do_v de_int) (by intro _ _; rfl))) (do_v de_int)).vt (dss_cons (ds_setN (i := 2) nd__law_taken (by rfl) (by first | exact .inl rfl | exact .inr rfl) (dx_v (de_mod (do_v (de_x (dx_int (by rfl) h.n_int (da_o (do_v (de_ix (do_n (pv 0)) (do_v de_int) (by intro _ _; rfl))) da_nil)))) (do_n (pv 1)))) (by rfl) (by first | exact .inl rfl | exact .inr rfl))
  (dss_cons (ds_putN (pv 0) (de_div (do_v (de_ix (do_n (pv 0)) (do_v de_int) (by intro _ _; rfl))) (do_n (pv 1))) de_int)
  (dss_one (ds_ret (de_var (pv 2)))))) dss_nil)
  (dss_cons (ds_putN (pv 0) (de_x (dx_add (do_v (de_ix (do_n (pv 0)) (do_v de_int) (by intro _ _; rfl))) (do_v de_int))) de_int)
  (dss_cons (ds_if (dc_gt (by rfl) (do_v (de_ix (do_n (pv 0)) (do_v de_int) (by intro _ _; rfl))) (do_v (de_x (dx_len (by rfl) h.n_len (da_o (do_v (de_ix (do_n (pv 0)) (do_v de_int) (by intro _ _; rfl))) da_nil))))).vt (dss_cons (ds_putN (pv 0) (de_mod (do_v (de_x (dx_int (by rfl) h.n_int (da_o (do_v (de_x (dx_add (do_v (de_x (dx_mul (do_v (de_ix (do_n (pv 0)) (do_v de_int) (by intro _ _; rfl))) (do_v de_int)))) (do_v de_int)))) da_nil)))) (do_v de_int)) de_int)
  (dss_one (ds_ret (de_mod (do_v (de_x (dx_int (by rfl) h.n_int (da_o (do_v (de_div (do_v (de_ix (do_n (pv 0)) (do_v de_int) (by intro _ _; rfl))) (do_v de_int))) da_nil)))) (do_n (pv 1)))))) dss_nil)
  (dss_cons (ds_setN (i := 3) nd__law_taken (by rfl) (by first | exact .inl rfl | exact .inr rfl) (dx_v (de_ix (do_v (de_ix (do_n (pv 0)) (do_v de_int) (by intro _ _; rfl))) (do_v (de_sub (do_v (de_ix (do_n (pv 0)) (do_v de_int) (by intro _ _; rfl))) (do_v de_int))) (by intro _ _; rfl))) (by rfl) (by first | exact .inl rfl | exact .inr rfl))
  (dss_cons (ds_putN (pv 0) (de_mod (do_v (de_x (dx_int (by rfl) h.n_int (da_o (do_v (de_x (dx_add (do_v (de_x (dx_add (do_v (de_x (dx_mul (do_v (de_ix (do_n (pv 0)) (do_v de_int) (by intro _ _; rfl))) (do_v de_int)))) (do_n (pv 3))))) (do_v de_int)))) da_nil)))) (do_v de_int)) de_int)
  (dss_cons (ds_if (dc_ge (by rfl) (do_n (pv 3)) (do_v (de_pow (do_v de_int) (do_v de_int)))).vt (dss_one (ds_putN (pv 0) (de_div (do_n (pv 3)) (do_n (pv 1))) de_int)) dss_nil)
  (dss_one (ds_ret (de_mod (do_v (de_x (dx_int (by rfl) h.n_int (da_o (do_n (pv 3)) da_nil)))) (do_n (pv 1)))))))))))
theorem nd__law_pick : (["_law_row", "_law_things"] : List Str).Nodup := by decide +kernel
theorem sc__law_pick : FnScope ["_law_row", "_law_things"] ["_law_row", "_law_things"] (defScope (top 29)) := ⟨rfl, rfl, rfl, nd__law_pick, rfl, by decide +kernel, by decide +kernel⟩
theorem bi__law_pick (h : GOk K mg base w g) : Binds K g.d__law_pick ["_law_row", "_law_things"] [] := h.F__law_pick.bindsN fun _ _ _ _ _ _ us hl => match us, hl with | [_, _], _ => rfl
theorem len__law_pick (sl : List Sl) (e : sl.length ≠ 2) : D__law_pick sl = .st := fnOf_len _ e
theorem ok__law_pick (h : GOk K mg base w g) : FnOk P w K mg base (L2.CX P w) 2 g.f__law_pick g.d__law_pick ["_law_row", "_law_things"] (SpOf K g.tg 2 D__law_pick) :=
  def_ok (k := 1) (h.F__law_pick) sc__law_pick rfl rfl fun cdv A outer s H E hr => (dss_one (ds_ret (de_ix (do_n (pv 1)) (do_v (de_call (ok__law_taken h) len__law_taken (hr.mono (by omega)) (by rfl) h.m__law_taken h.F__law_taken.kp (bi__law_taken h) (Air.of (takes_def (CXx := L2.CX P w))) (da_io (pv 0) (da_cons (de_x (dx_len (by rfl) h.n_len (da_o (do_n (pv 1)) da_nil))) da_nil)))) (by intro _ _; rfl))))
theorem nd__law_history : (["_law_row", "_law_world_here", "_law_letters", "_law_many", "_law_edits_here", "_law_texts", "_law_turn", "_law_edit"] : List Str).Nodup := by decide +kernel
theorem sc__law_history : FnScope ["_law_row", "_law_world_here", "_law_letters", "_law_many", "_law_edits_here", "_law_texts", "_law_turn", "_law_edit"] ["_law_row", "_law_world_here", "_law_letters", "_law_many"] (defScope (top 36)) := ⟨rfl, rfl, rfl, nd__law_history, rfl, by decide +kernel, by decide +kernel⟩
theorem bi__law_history (h : GOk K mg base w g) : Binds K g.d__law_history ["_law_row", "_law_world_here", "_law_letters", "_law_many"] [] := h.F__law_history.bindsN fun _ _ _ _ _ _ us hl => match us, hl with | [_, _, _, _], _ => rfl
theorem len__law_history (sl : List Sl) (e : sl.length ≠ 4) : D__law_history sl = .st := fnOf_len _ e
theorem ok__law_history (h : GOk K mg base w g) : FnOk P w K mg base (L2.CX P w) 4 g.f__law_history g.d__law_history ["_law_row", "_law_world_here", "_law_letters", "_law_many"] (SpOf K g.tg 4 D__law_history) :=
  def_ok (k := 3) (h.F__law_history) sc__law_history rfl rfl fun cdv A outer s H E hr => (dss_cons (ds_par2 (i := 4) (j := 5) (by rfl) nd__law_history (by rfl) (by rfl) (by decide) (by rfl) (by rfl) (dax_cons (dx_l (dl_lst da_nil)) (dax_cons (dx_l (dl_lst (da_cons (de_tup da_nil) da_nil))) dax_nil)) (by rfl))
  (dss_cons (ds_for passes_def (by rfl) (di_range1 (by rfl) h.n_range (da_cons (de_var (pv 3)) da_nil)) (dg_name (pg_name nd__law_history (by rfl) (by first | exact .inl rfl | exact .inr rfl))) (dss_cons (ds_setN (i := 7) nd__law_history (by rfl) (by first | exact .inl rfl | exact .inr rfl) (dx_v (de_call (ok__law_pick h) len__law_pick (hr.mono (by omega)) (by rfl) h.m__law_pick h.F__law_pick.kp (bi__law_pick h) (Air.of (takes_def (CXx := L2.CX P w))) (da_io (pv 0) (da_cons (de_call (ok__law_edits h) len__law_edits (hr.mono (by omega)) (by rfl) h.m__law_edits h.F__law_edits.kp (bi__law_edits h) (Air.of (takes_def (CXx := L2.CX P w))) (da_cons (de_var (pv 1)) (da_cons (de_var (pv 2)) (da_cons (de_ix (do_n (pv 5)) (do_v (de_neg de_int)) (by intro _ _; rfl)) da_nil)))) da_nil)))) (by rfl) (by first | exact .inl rfl | exact .inr rfl))
  (dss_cons (ds_expr (de_append (pv 4) (da_cons (de_var (pv 7)) da_nil)))
  (dss_one (ds_expr (de_append (pv 5) (da_cons (de_call (ok__law_done h) len__law_done (hr.mono (by omega)) (by rfl) h.m__law_done h.F__law_done.kp (bi__law_done h) (Air.of (takes_def (CXx := L2.CX P w))) (da_cons (de_var (pv 1)) (da_cons (de_ix (do_n (pv 5)) (do_v (de_neg de_int)) (by intro _ _; rfl)) (da_cons (de_var (pv 7)) da_nil)))) da_nil)))))))
  (dss_one (ds_ret (de_tup (da_cons (de_x (dx_tuple (by rfl) h.n_tuple (da_o (do_n (pv 4)) da_nil))) (da_cons (de_var (pv 5)) da_nil)))))))
theorem nd__law_said : (["_law_world_here", "_law_edits_here", "_law_edit"] : List Str).Nodup := by decide +kernel
theorem sc__law_said : FnScope ["_law_world_here", "_law_edits_here", "_law_edit"] ["_law_world_here", "_law_edits_here"] (defScope (top 37)) := ⟨rfl, rfl, rfl, nd__law_said, rfl, by decide +kernel, by decide +kernel⟩
theorem bi__law_said (h : GOk K mg base w g) : Binds K g.d__law_said ["_law_world_here", "_law_edits_here"] [] := h.F__law_said.bindsN fun _ _ _ _ _ _ us hl => match us, hl with | [_, _], _ => rfl
theorem len__law_said (sl : List Sl) (e : sl.length ≠ 2) : D__law_said sl = .st := fnOf_len _ e
theorem ok__law_said (h : GOk K mg base w g) : FnOk P w K mg base (L2.CX P w) 1 g.f__law_said g.d__law_said ["_law_world_here", "_law_edits_here"] (SpOf K g.tg 2 D__law_said) :=
  def_ok (k := 0) (h.F__law_said) sc__law_said rfl rfl fun cdv A outer s H E hr => (dss_one (ds_ret (de_fz (dl_lc (own := [("_law_edit", 2)]) (by rfl) nd__law_said (di_seq (de_var (pv 1))) (blkOk_by (by kernel_rfl)) (fun _ _ _ _ _ => (dg_name (pg_name nd__law_said (by rfl) (by first | exact .inl rfl | exact .inr rfl)))) (fun _ _ _ _ _ => dts_nil) (fun _ _ _ _ _ => (de_x (dx_if (dc_in (ru hr) (by rfl) (do_n (pv 0)) (do_v (de_fz (dl_lst (da_cons de_str (da_cons de_str da_nil)))))).vt (dx_sl (do_n (pv 2)) dp_no (dp_at de_int)) (dx_v (de_var (pv 2))))))))))
theorem nd__law_told : (["_law_work", "_law_found", "e"] : List Str).Nodup := by decide +kernel
theorem sc__law_told : FnScope ["_law_work", "_law_found", "e"] ["_law_work"] (defScope (top 38)) := ⟨rfl, rfl, rfl, nd__law_told, rfl, by decide +kernel, by decide +kernel⟩
theorem bi__law_told (h : GOk K mg base w g) : Binds K g.d__law_told ["_law_work"] [] := h.F__law_told.bindsN fun _ _ _ _ _ _ us hl => match us, hl with | [_], _ => rfl
theorem len__law_told (sl : List Sl) (e : sl.length ≠ 1) : D__law_told sl = .st := fnOf_len _ e
theorem ok__law_told (h : GOk K mg base w g) : FnOk P w K mg base (L2.CX P w) 1 g.f__law_told g.d__law_told ["_law_work"] (SpOf K g.tg 1 D__law_told) :=
  def_ok (k := 0) (h.F__law_told) sc__law_told rfl rfl fun cdv A outer s H E hr => dss_never
theorem nd__law_world : (["_law_row", "_law_some"] : List Str).Nodup := by decide +kernel
theorem sc__law_world : FnScope ["_law_row", "_law_some"] ["_law_row"] (defScope (top 30)) := ⟨rfl, rfl, rfl, nd__law_world, rfl, by decide +kernel, by decide +kernel⟩
theorem bi__law_world (h : GOk K mg base w g) : Binds K g.d__law_world ["_law_row"] [] := h.F__law_world.bindsN fun _ _ _ _ _ _ us hl => match us, hl with | [_], _ => rfl
theorem len__law_world (sl : List Sl) (e : sl.length ≠ 1) : D__law_world sl = .st := fnOf_len _ e
theorem ok__law_world (h : GOk K mg base w g) : FnOk P w K mg base (L2.CX P w) 3 g.f__law_world g.d__law_world ["_law_row"] (SpOf K g.tg 1 D__law_world) :=
  def_ok (k := 2) (h.F__law_world) sc__law_world rfl rfl fun cdv A outer s H E hr => (dss_cons (ds_setN (i := 1) nd__law_world (by rfl) (by first | exact .inl rfl | exact .inr rfl) (dx_l (dl_lst (da_cons de_str (da_cons de_str (da_cons de_str (da_cons de_str (da_cons de_str (da_cons de_str (da_cons de_str (da_cons de_str da_nil)))))))))) (by rfl) (by first | exact .inl rfl | exact .inr rfl))
  (dss_one (ds_ret (de_call (ok__law_pick h) len__law_pick (hr.mono (by omega)) (by rfl) h.m__law_pick h.F__law_pick.kp (bi__law_pick h) (Air.of (takes_def (CXx := L2.CX P w))) (da_io (pv 0) (da_cons (de_x (dx_add (do_n (pv 1)) (do_v (de_fz (dl_lst (da_cons de_str (da_cons de_str (da_cons de_str da_nil)))))))) da_nil))))))
theorem nd_orders : (["many", "found", "_", "row", "one"] : List Str).Nodup := by decide +kernel
theorem sc_orders : FnScope ["many", "found", "_", "row", "one"] ["many"] (defScope (top 15)) := ⟨rfl, rfl, rfl, nd_orders, rfl, by decide +kernel, by decide +kernel⟩
theorem bi_orders (h : GOk K mg base w g) : Binds K g.d_orders ["many"] [] := h.F_orders.bindsN fun _ _ _ _ _ _ us hl => match us, hl with | [_], _ => rfl
theorem len_orders (sl : List Sl) (e : sl.length ≠ 1) : D_orders sl = .st := fnOf_len _ e
theorem ok_orders (h : GOk K mg base w g) : FnOk P w K mg base (L2.CX P w) 1 g.f_orders g.d_orders ["many"] (SpOf K g.tg 1 D_orders) :=
  def_ok (k := 0) (h.F_orders) sc_orders rfl rfl fun cdv A outer s H E hr => (dss_cons (ds_setN (i := 1) nd_orders (by rfl) (by first | exact .inl rfl | exact .inr rfl) (dx_l (dl_lst (da_cons (de_tup da_nil) da_nil))) (by rfl) (by first | exact .inl rfl | exact .inr rfl))
  (dss_cons (ds_for passes_def (by rfl) (di_range1 (by rfl) h.n_range (da_cons (de_var (pv 0)) da_nil)) (dg_name (pg_name nd_orders (by rfl) (by first | exact .inl rfl | exact .inr rfl))) (dss_one (ds_setLc2 (i := 1) (own := [("row", 3), ("one", 4)]) (ow1 := [4]) (by rfl) nd_orders (by rfl) (by rfl) (sw_true (by rfl) (by rfl) (by rfl) (by rfl)) (di_seq (de_var (pv 1))) (blkOk_by (by kernel_rfl)) (fun _ _ _ _ _ => (dg_name (pg_name nd_orders (by rfl) (by first | exact .inl rfl | exact .inr rfl)))) (fun _ _ _ _ _ => dts_nil) (fun _ _ _ _ _ => (di_range1 (by rfl) h.n_range (da_cons (de_var (pv 0)) da_nil))) (fun _ _ _ _ _ => (dg_name (pg_name nd_orders (by rfl) (by first | exact .inl rfl | exact .inr rfl)))) (fun _ _ _ _ _ => (dts_one (dc_notin (ru hr) (by rfl) (do_n (pv 4)) (do_n (pv 3))).vt)) (fun _ _ _ _ _ => (de_x (dx_add (do_n (pv 3)) (do_v (de_tup (da_cons (de_var (pv 4)) da_nil)))))))))
  (dss_one (ds_ret (de_x (dx_sorted (ru hr) (by rfl) h.n_sorted (da_o (do_n (pv 1)) da_nil)))))))
theorem nd_all_messages : (["world", "letters", "found", "kind", "letter", "row"] : List Str).Nodup := by decide +kernel
theorem sc_all_messages : FnScope ["world", "letters", "found", "kind", "letter", "row"] ["world", "letters"] (defScope (top 16)) := ⟨rfl, rfl, rfl, nd_all_messages, rfl, by decide +kernel, by decide +kernel⟩
theorem bi_all_messages (h : GOk K mg base w g) : Binds K g.d_all_messages ["world", "letters"] [] := h.F_all_messages.bindsN fun _ _ _ _ _ _ us hl => match us, hl with | [_, _], _ => rfl
theorem len_all_messages (sl : List Sl) (e : sl.length ≠ 2) : D_all_messages sl = .st := fnOf_len _ e
theorem ok_all_messages (h : GOk K mg base w g) : FnOk P w K mg base (L2.CX P w) 2 g.f_all_messages g.d_all_messages ["world", "letters"] (SpOf K g.tg 2 D_all_messages) :=
  def_ok (k := 1) (h.F_all_messages) sc_all_messages rfl rfl fun cdv A outer s H E hr => (dss_cons (ds_setLc2 (i := 2) (own := [("kind", 3), ("letter", 4)]) (ow1 := [4]) (by rfl) nd_all_messages (by rfl) (by rfl) (sw_true (by rfl) (by rfl) (by rfl) (by rfl)) (di_seq (de_kix (by rfl) h.tab_KINDS (de_var (pv 0)) (by intro _ _; rfl))) (blkOk_by (by kernel_rfl)) (fun _ _ _ _ _ => (dg_name (pg_name nd_all_messages (by rfl) (by first | exact .inl rfl | exact .inr rfl)))) (fun _ _ _ _ _ => dts_nil) (fun _ _ _ _ _ => (di_range1 (by rfl) h.n_range (da_cons (de_var (pv 1)) da_nil))) (fun _ _ _ _ _ => (dg_name (pg_name nd_all_messages (by rfl) (by first | exact .inl rfl | exact .inr rfl)))) (fun _ _ _ _ _ => dts_nil) (fun _ _ _ _ _ => (de_tup (da_cons (de_var (pv 3)) (da_cons (de_var (pv 4)) da_nil)))))
  (dss_cons (ds_if (dc_eq (ru hr) (by rfl) (do_n (pv 0)) (do_v de_str)).vt (dss_one (ds_iadd nd_all_messages (i := 2) (by rfl) (by first | exact .inl rfl | exact .inr rfl) (de_fz (dl_lc (own := [("row", 5)]) (by rfl) nd_all_messages (di_seq (de_call (ok_orders h) len_orders (hr.mono (by omega)) (by rfl) h.m_orders h.F_orders.kp (bi_orders h) (Air.of (takes_def (CXx := L2.CX P w))) (da_cons (de_var (pv 1)) da_nil))) (blkOk_by (by kernel_rfl)) (fun _ _ _ _ _ => (dg_name (pg_name nd_all_messages (by rfl) (by first | exact .inl rfl | exact .inr rfl)))) (fun _ _ _ _ _ => dts_nil) (fun _ _ _ _ _ => (de_tup (da_cons de_str (da_cons (de_var (pv 5)) da_nil)))))) (by first | exact .inl rfl | exact .inr rfl))) dss_nil)
  (dss_cons (ds_if (dc_eq (ru hr) (by rfl) (do_n (pv 0)) (do_v de_str)).vt (dss_one (ds_expr (de_append (pv 2) (da_cons (de_tup (da_cons de_str da_nil)) da_nil)))) dss_nil)
  (dss_one (ds_ret (de_x (dx_sorted (ru hr) (by rfl) h.n_sorted (da_o (do_n (pv 2)) da_nil))))))))
theorem nd_is_number : (["value", "low", "high"] : List Str).Nodup := by decide +kernel
theorem sc_is_number : FnScope ["value", "low", "high"] ["value", "low", "high"] (defScope (top 8)) := ⟨rfl, rfl, rfl, nd_is_number, rfl, by decide +kernel, by decide +kernel⟩
theorem bi_is_number (h : GOk K mg base w g) : Binds K g.d_is_number ["value", "low", "high"] [] := h.F_is_number.bindsN fun _ _ _ _ _ _ us hl => match us, hl with | [_, _, _], _ => rfl
theorem len_is_number (sl : List Sl) (e : sl.length ≠ 3) : D_is_number sl = .st := fnOf_len _ e
theorem ok_is_number (h : GOk K mg base w g) : FnOk P w K mg base (L2.CX P w) 1 g.f_is_number g.d_is_number ["value", "low", "high"] (SpOf K g.tg 3 D_is_number) :=
  def_ok (k := 0) (h.F_is_number) sc_is_number rfl rfl fun cdv A outer s H E hr => (dss_one (ds_ret (de_and (de_isi isT_int (by rfl) h.n_isinstance (by rfl) h.n_int (by rfl) (do_n (pv 0))) (de_and (de_not (de_isi isT_bool (by rfl) h.n_isinstance (by rfl) h.n_bool (by rfl) (do_n (pv 0)))) (de_one (dc_lele (do_n (pv 1)) (do_n (pv 0)) (do_n (pv 2))).ve)))))
theorem nd_need_letters : (["value"] : List Str).Nodup := by decide +kernel
theorem sc_need_letters : FnScope ["value"] ["value"] (defScope (top 18)) := ⟨rfl, rfl, rfl, nd_need_letters, rfl, by decide +kernel, by decide +kernel⟩
theorem bi_need_letters (h : GOk K mg base w g) : Binds K g.d_need_letters ["value"] [] := h.F_need_letters.bindsN fun _ _ _ _ _ _ us hl => match us, hl with | [_], _ => rfl
theorem len_need_letters (sl : List Sl) (e : sl.length ≠ 1) : D_need_letters sl = .st := fnOf_len _ e
theorem ok_need_letters (h : GOk K mg base w g) : FnOk P w K mg base (L2.CX P w) 2 g.f_need_letters g.d_need_letters ["value"] (SpOf K g.tg 1 D_need_letters) :=
  def_ok (k := 1) (h.F_need_letters) sc_need_letters rfl rfl fun cdv A outer s H E hr => (dss_one (ds_if (dt_not (dt_val (de_call (ok_is_number h) len_is_number (hr.mono (by omega)) (by rfl) h.m_is_number h.F_is_number.kp (bi_is_number h) (Air.of (takes_def (CXx := L2.CX P w))) (da_cons (de_var (pv 0)) (da_cons de_int (da_cons (de_con (by rfl) h.con_MOST_LETTERS) da_nil)))))) dss_never dss_nil))
theorem nd_need_world : (["value"] : List Str).Nodup := by decide +kernel
theorem sc_need_world : FnScope ["value"] ["value"] (defScope (top 14)) := ⟨rfl, rfl, rfl, nd_need_world, rfl, by decide +kernel, by decide +kernel⟩
theorem bi_need_world (h : GOk K mg base w g) : Binds K g.d_need_world ["value"] [] := h.F_need_world.bindsN fun _ _ _ _ _ _ us hl => match us, hl with | [_], _ => rfl
theorem len_need_world (sl : List Sl) (e : sl.length ≠ 1) : D_need_world sl = .st := fnOf_len _ e
theorem ok_need_world (h : GOk K mg base w g) : FnOk P w K mg base (L2.CX P w) 1 g.f_need_world g.d_need_world ["value"] (SpOf K g.tg 1 D_need_world) :=
  def_ok (k := 0) (h.F_need_world) sc_need_world rfl rfl fun cdv A outer s H E hr => (dss_one (ds_if (dw_or (dt_not (dt_val (de_isi isT_str (by rfl) h.n_isinstance (by rfl) h.n_str (by rfl) (do_n (pv 0))))) (dw_or1 (dc_notin (ru hr) (by rfl) (do_n (pv 0)) (do_v (de_con (by rfl) h.con_WORLDS))).vt)).dt dss_never dss_nil))
theorem nd_messages : (["world", "letters"] : List Str).Nodup := by decide +kernel
theorem sc_messages : FnScope ["world", "letters"] ["world", "letters"] (defScope (top 26)) := ⟨rfl, rfl, rfl, nd_messages, rfl, by decide +kernel, by decide +kernel⟩
theorem bi_messages (h : GOk K mg base w g) : Binds K g.d_messages ["world", "letters"] [] := h.F_messages.bindsN fun _ _ _ _ _ _ us hl => match us, hl with | [_, _], _ => rfl
theorem len_messages (sl : List Sl) (e : sl.length ≠ 2) : D_messages sl = .st := fnOf_len _ e
theorem ok_messages (h : GOk K mg base w g) : FnOk P w K mg base (L2.CX P w) 3 g.f_messages g.d_messages ["world", "letters"] (SpOf K g.tg 2 D_messages) :=
  def_ok (k := 2) (h.F_messages) sc_messages rfl rfl fun cdv A outer s H E hr => (dss_cons (ds_expr (de_call (ok_need_world h) len_need_world (hr.mono (by omega)) (by rfl) h.m_need_world h.F_need_world.kp (bi_need_world h) (Air.of (takes_def (CXx := L2.CX P w))) (da_cons (de_var (pv 0)) da_nil)))
  (dss_cons (ds_expr (de_call (ok_need_letters h) len_need_letters (hr.mono (by omega)) (by rfl) h.m_need_letters h.F_need_letters.kp (bi_need_letters h) (Air.of (takes_def (CXx := L2.CX P w))) (da_cons (de_var (pv 1)) da_nil)))
  (dss_one (ds_ret (de_x (dx_tuple (by rfl) h.n_tuple (da_o (do_v (de_call (ok_all_messages h) len_all_messages (hr.mono (by omega)) (by rfl) h.m_all_messages h.F_all_messages.kp (bi_all_messages h) (Air.of (takes_def (CXx := L2.CX P w))) (da_cons (de_var (pv 0)) (da_cons (de_var (pv 1)) da_nil)))) da_nil)))))))
theorem nd_done : (["world", "text", "edit", "kind", "letter"] : List Str).Nodup := by decide +kernel
theorem sc_done : FnScope ["world", "text", "edit", "kind", "letter"] ["world", "text", "edit"] (defScope (top 21)) := ⟨rfl, rfl, rfl, nd_done, rfl, by decide +kernel, by decide +kernel⟩
theorem bi_done (h : GOk K mg base w g) : Binds K g.d_done ["world", "text", "edit"] [] := h.F_done.bindsN fun _ _ _ _ _ _ us hl => match us, hl with | [_, _, _], _ => rfl
theorem len_done (sl : List Sl) (e : sl.length ≠ 3) : D_done sl = .st := fnOf_len _ e
theorem ok_done (h : GOk K mg base w g) : FnOk P w K mg base (L2.CX P w) 1 g.f_done g.d_done ["world", "text", "edit"] (SpOf K g.tg 3 D_done) :=
  def_ok (k := 0) (h.F_done) sc_done rfl rfl fun cdv A outer s H E hr => (dss_cons (ds_setN (i := 3) nd_done (by rfl) (by first | exact .inl rfl | exact .inr rfl) (dx_v (de_ix (do_n (pv 2)) (do_v de_int) (by intro _ _; rfl))) (by rfl) (by first | exact .inl rfl | exact .inr rfl))
  (dss_cons (ds_if (dc_eq (ru hr) (by rfl) (do_n (pv 3)) (do_v de_str)).vt (dss_one (ds_ret (de_x (dx_if (dc_eq (ru hr) (by rfl) (do_n (pv 0)) (do_v de_str)).vt (dx_tuple (by rfl) h.n_tuple (da_o (do_v (de_fz (dl_lc (own := [("letter", 4)]) (by rfl) nd_done (di_seq (de_var (pv 1))) (blkOk_by (by kernel_rfl)) (fun _ _ _ _ _ => (dg_name (pg_name nd_done (by rfl) (by first | exact .inl rfl | exact .inr rfl)))) (fun _ _ _ _ _ => dts_nil) (fun _ _ _ _ _ => (de_ix (do_v (de_ix (do_n (pv 2)) (do_v de_int) (by intro _ _; rfl))) (do_n (pv 4)) (by intro _ _; rfl)))))) da_nil)) (dx_v (de_revT (de_var (pv 1)))))))) dss_nil)
  (dss_cons (ds_if (dc_eq (ru hr) (by rfl) (do_n (pv 3)) (do_v de_str)).vt (dss_one (ds_ret (de_x (dx_sl (do_n (pv 1)) dp_no (dp_at (de_neg de_int)))))) dss_nil)
  (dss_cons (ds_if (dc_eq (ru hr) (by rfl) (do_n (pv 3)) (do_v de_str)).vt (dss_one (ds_ret (de_x (dx_sl (do_n (pv 1)) (dp_at de_int) dp_no)))) dss_nil)
  (dss_cons (ds_if (dc_eq (ru hr) (by rfl) (do_n (pv 3)) (do_v de_str)).vt (dss_one (ds_ret (de_x (dx_add (do_v (de_tup (da_cons (de_ix (do_n (pv 2)) (do_v de_int) (by intro _ _; rfl)) da_nil))) (do_n (pv 1)))))) dss_nil)
  (dss_cons (ds_if (dc_notin (ru hr) (by rfl) (do_n (pv 0)) (do_v (de_con (by rfl) h.con_HIDDEN))).vt (dss_one (ds_ret (de_x (dx_add (do_n (pv 1)) (do_v (de_tup (da_cons (de_ix (do_n (pv 2)) (do_v de_int) (by intro _ _; rfl)) da_nil))))))) dss_nil)
  (dss_cons (ds_if (dc_eq (ru hr) (by rfl) (do_n (pv 3)) (do_v de_str)).vt (dss_one (ds_ret (de_x (dx_add (do_v (de_x (dx_sl (do_n (pv 1)) dp_no (dp_at (de_ix (do_n (pv 2)) (do_v de_int) (by intro _ _; rfl)))))) (do_v (de_x (dx_sl (do_n (pv 1)) (dp_at (de_x (dx_add (do_v (de_ix (do_n (pv 2)) (do_v de_int) (by intro _ _; rfl))) (do_v de_int)))) dp_no))))))) dss_nil)
  (dss_one (ds_ret (de_x (dx_add (do_v (de_x (dx_add (do_v (de_x (dx_sl (do_n (pv 1)) dp_no (dp_at (de_ix (do_n (pv 2)) (do_v de_int) (by intro _ _; rfl)))))) (do_v (de_tup (da_cons (de_ix (do_n (pv 2)) (do_v de_int) (by intro _ _; rfl)) da_nil)))))) (do_v (de_x (dx_sl (do_n (pv 1)) (dp_at (de_ix (do_n (pv 2)) (do_v de_int) (by intro _ _; rfl))) dp_no))))))))))))))
theorem nd_is_like : (["one", "other", "part", "own"] : List Str).Nodup := by decide +kernel
theorem sc_is_like : FnScope ["one", "other", "part", "own"] ["one", "other"] (defScope (top 19)) := ⟨rfl, rfl, rfl, nd_is_like, rfl, by decide +kernel, by decide +kernel⟩
theorem bi_is_like (h : GOk K mg base w g) : Binds K g.d_is_like ["one", "other"] [] := h.F_is_like.bindsN fun _ _ _ _ _ _ us hl => match us, hl with | [_, _], _ => rfl
theorem len_is_like : ∀ n sl, sl.length ≠ 2 → D_is_like n sl = .st
  | 0, _, e => fnOf_len _ e
  | _ + 1, _, e => fnOf_len _ e
theorem ok_is_like (h : GOk K mg base w g) : ∀ n, FnOk P w K mg base (L2.CX P w) (4 * n + 4) g.f_is_like g.d_is_like ["one", "other"] (SpOf K g.tg 2 (D_is_like n))
  | 0 => (def_okC (h.F_is_like) h.k_is_like sc_is_like rfl rfl fun A outer s H E hr => dss_never : FnOk P w K mg base (L2.CX P w) (3 + 1) _ _ _ (SpOf K g.tg 2 (fnOf 2 4 .st)))
  | n + 1 => by
    have ih := ok_is_like h n
    exact (def_okC (h.F_is_like) h.k_is_like sc_is_like rfl rfl fun A outer s H E hr => (dss_cons (ds_if (dt_val (de_isi isT_tuple (by rfl) h.n_isinstance (by rfl) h.n_tuple (by rfl) (do_n (pv 1)))) (dss_cons (ds_if (dw_or (dt_not (dt_val (de_isi isT_tuple (by rfl) h.n_isinstance (by rfl) h.n_tuple (by rfl) (do_n (pv 0))))) (dw_or1 (dc_ne (ru hr) (by rfl) (do_v (de_x (dx_len (by rfl) h.n_len (da_o (do_n (pv 0)) da_nil)))) (do_v (de_x (dx_len (by rfl) h.n_len (da_o (do_n (pv 1)) da_nil))))).vt)).dt (dss_one (ds_ret de_bl)) dss_nil)
  (dss_one (ds_ret (de_all (k := (4 * n + 4)) (own := [("part", 2), ("own", 3)]) (hr.mono (by omega)) (by rfl) nd_is_like (by rfl) h.n_all h.t_is_like (tg_is_like h) (by rfl) (gnS_by (by kernel_rfl)) (di_zip (by rfl) h.n_zip (da_cons (de_var (pv 0)) (da_cons (de_var (pv 1)) da_nil))) ⟨(fun A1 _ _ _ _ _ _ hr1 => (dg_tup (by rfl) (dgs_cons (dg_name (pg_name nd_is_like (by rfl) (by first | exact .inl rfl | exact .inr rfl))) (dgs_cons (dg_name (pg_name nd_is_like (by rfl) (by first | exact .inl rfl | exact .inr rfl))) dgs_nil)))), (fun A1 _ _ _ _ _ _ hr1 => dts_nil), (fun A1 _ _ _ _ _ _ hr1 => (de_call ih (len_is_like _) (hr1.mono (by omega)) (by rfl) h.m_is_like h.F_is_like.kp (bi_is_like h) Air.none (da_cons (de_var (pv 2)) (da_cons (de_var (pv 3)) da_nil))))⟩)))) dss_nil)
  (dss_cons (ds_if (dw_or (dt_val (de_isi isT_bool (by rfl) h.n_isinstance (by rfl) h.n_bool (by rfl) (do_n (pv 0)))) (dw_or1 (dc_ne (ru hr) (by rfl) (do_v (de_isi isT_str (by rfl) h.n_isinstance (by rfl) h.n_str (by rfl) (do_n (pv 0)))) (do_v (de_isi isT_str (by rfl) h.n_isinstance (by rfl) h.n_str (by rfl) (do_n (pv 1))))).vt)).dt (dss_one (ds_ret de_bl)) dss_nil)
  (dss_one (ds_ret (dc_eq (ru hr) (by rfl) (do_n (pv 0)) (do_n (pv 1))).ve)))) : FnOk P w K mg base (L2.CX P w) ((4 * n + 7) + 1) _ _ _ (SpOf K g.tg 2 (D_is_like (n + 1))))
theorem nd_is_edit : (["world", "letters", "text", "value", "shown", "message", "kind"] : List Str).Nodup := by decide +kernel
theorem sc_is_edit : FnScope ["world", "letters", "text", "value", "shown", "message", "kind"] ["world", "letters", "text", "value"] (defScope (top 20)) := ⟨rfl, rfl, rfl, nd_is_edit, rfl, by decide +kernel, by decide +kernel⟩
theorem bi_is_edit (h : GOk K mg base w g) : Binds K g.d_is_edit ["world", "letters", "text", "value"] [] := h.F_is_edit.bindsN fun _ _ _ _ _ _ us hl => match us, hl with | [_, _, _, _], _ => rfl
theorem len_is_edit (sl : List Sl) (e : sl.length ≠ 4) : D_is_edit sl = .st := fnOf_len _ e
theorem ok_is_edit (h : GOk K mg base w g) : FnOk P w K mg base (L2.CX P w) 32 g.f_is_edit g.d_is_edit ["world", "letters", "text", "value"] (SpOf K g.tg 4 D_is_edit) :=
  def_okC (k := 31) (h.F_is_edit) h.k_is_edit sc_is_edit rfl rfl fun A outer s H E hr => (dss_cons (ds_if (dw_or (dt_not (dt_val (de_isi isT_tuple (by rfl) h.n_isinstance (by rfl) h.n_tuple (by rfl) (do_n (pv 3))))) (dw_or1 (dt_not (dt_tr (de_var (pv 3)))))).dt (dss_one (ds_ret de_bl)) dss_nil)
  (dss_cons (ds_setN (i := 4) nd_is_edit (by rfl) (by first | exact .inl rfl | exact .inr rfl) (dx_if (dc_in (ru hr) (by rfl) (do_n (pv 0)) (do_v (de_con (by rfl) h.con_HIDDEN))).vt (dx_sl (do_n (pv 3)) dp_no (dp_at de_int)) (dx_v (de_var (pv 3)))) (by rfl) (by first | exact .inl rfl | exact .inr rfl))
  (dss_cons (ds_if (dt_not (dt_val (de_any (k := 28) (own := [("message", 5)]) (hr.mono (by omega)) (by rfl) nd_is_edit (by rfl) h.n_any h.t_is_edit (tg_is_edit h) (by rfl) (gnS_by (by kernel_rfl)) (di_seq (de_call (ok_all_messages h) len_all_messages (hr.mono (by omega)) (by rfl) h.m_all_messages h.F_all_messages.kp (bi_all_messages h) (Air.of (takes_def (CXx := L2.CX P w))) (da_cons (de_var (pv 0)) (da_cons (de_var (pv 1)) da_nil)))) ⟨(fun A1 _ _ _ _ _ _ hr1 => (dg_name (pg_name nd_is_edit (by rfl) (by first | exact .inl rfl | exact .inr rfl)))), (fun A1 _ _ _ _ _ _ hr1 => dts_nil), (fun A1 _ _ _ _ _ _ hr1 => (de_call (ok_is_like h 6) (len_is_like _) (hr1.mono (by omega)) (by rfl) h.m_is_like h.F_is_like.kp (bi_is_like h) Air.none (da_cons (de_var (pv 4)) (da_cons (de_var (pv 5)) da_nil))))⟩))) (dss_one (ds_ret de_bl)) dss_nil)
  (dss_cons (ds_setN (i := 6) nd_is_edit (by rfl) (by first | exact .inl rfl | exact .inr rfl) (dx_v (de_ix (do_n (pv 3)) (do_v de_int) (by intro _ _; rfl))) (by rfl) (by first | exact .inl rfl | exact .inr rfl))
  (dss_cons (ds_if (dc_in (ru hr) (by rfl) (do_n (pv 0)) (do_v (de_con (by rfl) h.con_HIDDEN))).vt (dss_cons (ds_if (dw_or (dc_ne (ru hr) (by rfl) (do_v (de_x (dx_len (by rfl) h.n_len (da_o (do_n (pv 3)) da_nil)))) (do_v de_int)).vt (dw_or1 (dt_not (dt_val (de_call (ok_is_number h) len_is_number (hr.mono (by omega)) (by rfl) h.m_is_number h.F_is_number.kp (bi_is_number h) (Air.of (takes_def (CXx := L2.CX P w))) (da_cons (de_ix (do_n (pv 3)) (do_v de_int) (by intro _ _; rfl)) (da_cons de_int (da_cons (de_x (dx_len (by rfl) h.n_len (da_o (do_n (pv 2)) da_nil))) da_nil)))))))).dt (dss_one (ds_ret de_bl)) dss_nil)
  (dss_one (ds_if (dc_eq (ru hr) (by rfl) (do_n (pv 6)) (do_v de_str)).vt (dss_one (ds_ret (de_and (dc_lt (by rfl) (do_v (de_ix (do_n (pv 3)) (do_v de_int) (by intro _ _; rfl))) (do_v (de_x (dx_len (by rfl) h.n_len (da_o (do_n (pv 2)) da_nil))))).ve (de_one (dc_eq (ru hr) (by rfl) (do_v (de_ix (do_n (pv 2)) (do_v (de_ix (do_n (pv 3)) (do_v de_int) (by intro _ _; rfl))) (by intro _ _; rfl))) (do_v (de_ix (do_n (pv 3)) (do_v de_int) (by intro _ _; rfl)))).ve)))) dss_nil))) dss_nil)
  (dss_cons (ds_if (dc_eq (ru hr) (by rfl) (do_n (pv 6)) (do_v de_str)).vt (dss_one (ds_ret (de_and (de_x (dx_bool (by rfl) h.n_bool (da_o (do_n (pv 2)) da_nil))) (de_one (dc_eq (ru hr) (by rfl) (do_v (de_ix (do_n (pv 2)) (do_v (de_neg de_int)) (by intro _ _; rfl))) (do_v (de_ix (do_n (pv 3)) (do_v de_int) (by intro _ _; rfl)))).ve)))) dss_nil)
  (dss_cons (ds_if (dc_eq (ru hr) (by rfl) (do_n (pv 6)) (do_v de_str)).vt (dss_one (ds_ret (de_and (de_x (dx_bool (by rfl) h.n_bool (da_o (do_n (pv 2)) da_nil))) (de_one (dc_eq (ru hr) (by rfl) (do_v (de_ix (do_n (pv 2)) (do_v de_int) (by intro _ _; rfl))) (do_v (de_ix (do_n (pv 3)) (do_v de_int) (by intro _ _; rfl)))).ve)))) dss_nil)
  (dss_one (ds_ret (de_or (dc_eq (ru hr) (by rfl) (do_n (pv 6)) (do_v de_str)).ve (de_one (dc_lt (by rfl) (do_v (de_x (dx_len (by rfl) h.n_len (da_o (do_n (pv 2)) da_nil)))) (do_v (de_con (by rfl) h.con_MOST_TEXT))).ve)))))))))))
theorem nd_first_wrong_edit : (["world", "letters", "value", "text", "index", "edit"] : List Str).Nodup := by decide +kernel
theorem sc_first_wrong_edit : FnScope ["world", "letters", "value", "text", "index", "edit"] ["world", "letters", "value"] (defScope (top 22)) := ⟨rfl, rfl, rfl, nd_first_wrong_edit, rfl, by decide +kernel, by decide +kernel⟩
theorem bi_first_wrong_edit (h : GOk K mg base w g) : Binds K g.d_first_wrong_edit ["world", "letters", "value"] [] := h.F_first_wrong_edit.bindsN fun _ _ _ _ _ _ us hl => match us, hl with | [_, _, _], _ => rfl
theorem len_first_wrong_edit (sl : List Sl) (e : sl.length ≠ 3) : D_first_wrong_edit sl = .st := fnOf_len _ e
theorem ok_first_wrong_edit (h : GOk K mg base w g) : FnOk P w K mg base (L2.CX P w) 33 g.f_first_wrong_edit g.d_first_wrong_edit ["world", "letters", "value"] (SpOf K g.tg 3 D_first_wrong_edit) :=
  def_ok (k := 32) (h.F_first_wrong_edit) sc_first_wrong_edit rfl rfl fun cdv A outer s H E hr => (dss_cons (ds_setN (i := 3) nd_first_wrong_edit (by rfl) (by first | exact .inl rfl | exact .inr rfl) (dx_v (de_tup da_nil)) (by rfl) (by first | exact .inl rfl | exact .inr rfl))
  (dss_cons (ds_for passes_def (by rfl) (di_enum (by rfl) h.n_enumerate (da_cons (de_var (pv 2)) da_nil)) (dg_tup (by rfl) (dgs_cons (dg_name (pg_name nd_first_wrong_edit (by rfl) (by first | exact .inl rfl | exact .inr rfl))) (dgs_cons (dg_name (pg_name nd_first_wrong_edit (by rfl) (by first | exact .inl rfl | exact .inr rfl))) dgs_nil))) (dss_cons (ds_if (dt_not (dt_val (de_call (ok_is_edit h) len_is_edit (hr.mono (by omega)) (by rfl) h.m_is_edit h.F_is_edit.kp (bi_is_edit h) (Air.of (takes_def (CXx := L2.CX P w))) (da_cons (de_var (pv 0)) (da_cons (de_var (pv 1)) (da_cons (de_var (pv 3)) (da_cons (de_var (pv 5)) da_nil))))))) (dss_one (ds_ret (de_tup (da_cons (de_var (pv 3)) (da_cons (de_var (pv 4)) da_nil))))) dss_nil)
  (dss_one (ds_setN (i := 3) nd_first_wrong_edit (by rfl) (by first | exact .inl rfl | exact .inr rfl) (dx_v (de_call (ok_done h) len_done (hr.mono (by omega)) (by rfl) h.m_done h.F_done.kp (bi_done h) (Air.of (takes_def (CXx := L2.CX P w))) (da_cons (de_var (pv 0)) (da_cons (de_var (pv 3)) (da_cons (de_var (pv 5)) da_nil))))) (by rfl) (by first | exact .inl rfl | exact .inr rfl)))))
  (dss_one (ds_ret (de_tup (da_cons (de_var (pv 3)) (da_cons de_non da_nil)))))))
theorem nd_need_edits : (["world", "letters", "value", "text", "wrong"] : List Str).Nodup := by decide +kernel
theorem sc_need_edits : FnScope ["world", "letters", "value", "text", "wrong"] ["world", "letters", "value"] (defScope (top 23)) := ⟨rfl, rfl, rfl, nd_need_edits, rfl, by decide +kernel, by decide +kernel⟩
theorem bi_need_edits (h : GOk K mg base w g) : Binds K g.d_need_edits ["world", "letters", "value"] [] := h.F_need_edits.bindsN fun _ _ _ _ _ _ us hl => match us, hl with | [_, _, _], _ => rfl
theorem len_need_edits (sl : List Sl) (e : sl.length ≠ 3) : D_need_edits sl = .st := fnOf_len _ e
theorem ok_need_edits (h : GOk K mg base w g) : FnOk P w K mg base (L2.CX P w) 34 g.f_need_edits g.d_need_edits ["world", "letters", "value"] (SpOf K g.tg 3 D_need_edits) :=
  def_ok (k := 33) (h.F_need_edits) sc_need_edits rfl rfl fun cdv A outer s H E hr => (dss_cons (ds_if (dw_or (dt_not (dt_val (de_isi isT_tuple (by rfl) h.n_isinstance (by rfl) h.n_tuple (by rfl) (do_n (pv 2))))) (dw_or1 (dc_gt (by rfl) (do_v (de_x (dx_len (by rfl) h.n_len (da_o (do_n (pv 2)) da_nil)))) (do_v (de_con (by rfl) h.con_MOST_EDITS))).vt)).dt (dss_one (ds_raise1 (k := 1) (by rfl) (takes_def (CXx := L2.CX P w)) h.x_BadEdits (ok_init_BadEdits h) (hr.mono (by omega)) (bi_init_BadEdits h) (by rfl) de_non)) dss_nil)
  (dss_cons (ds_asg (ps_asg (de_call (ok_first_wrong_edit h) len_first_wrong_edit (hr.mono (by omega)) (by rfl) h.m_first_wrong_edit h.F_first_wrong_edit.kp (bi_first_wrong_edit h) (Air.of (takes_def (CXx := L2.CX P w))) (da_cons (de_var (pv 0)) (da_cons (de_var (pv 1)) (da_cons (de_var (pv 2)) da_nil)))) (dg_tup (by rfl) (dgs_cons (dg_name (pg_name nd_need_edits (by rfl) (by first | exact .inl rfl | exact .inr rfl))) (dgs_cons (dg_name (pg_name nd_need_edits (by rfl) (by first | exact .inl rfl | exact .inr rfl))) dgs_nil)))) fun _ _ _ q => q)
  (dss_cons (ds_if (dc_isnot (by rfl) (do_n (pv 4)) (do_v de_non)).vt (dss_one (ds_raise1 (k := 1) (by rfl) (takes_def (CXx := L2.CX P w)) h.x_BadEdits (ok_init_BadEdits h) (hr.mono (by omega)) (bi_init_BadEdits h) (by rfl) (de_var (pv 4)))) dss_nil)
  (dss_one (ds_ret (de_var (pv 3)))))))
theorem nd_text_after : (["world", "letters", "edits"] : List Str).Nodup := by decide +kernel
theorem sc_text_after : FnScope ["world", "letters", "edits"] ["world", "letters", "edits"] (defScope (top 24)) := ⟨rfl, rfl, rfl, nd_text_after, rfl, by decide +kernel, by decide +kernel⟩
theorem bi_text_after (h : GOk K mg base w g) : Binds K g.d_text_after ["world", "letters", "edits"] [] := h.F_text_after.bindsN fun _ _ _ _ _ _ us hl => match us, hl with | [_, _, _], _ => rfl
theorem len_text_after (sl : List Sl) (e : sl.length ≠ 3) : D_text_after sl = .st := fnOf_len _ e
theorem ok_text_after (h : GOk K mg base w g) : FnOk P w K mg base (L2.CX P w) 35 g.f_text_after g.d_text_after ["world", "letters", "edits"] (SpOf K g.tg 3 D_text_after) :=
  def_ok (k := 34) (h.F_text_after) sc_text_after rfl rfl fun cdv A outer s H E hr => (dss_cons (ds_expr (de_call (ok_need_world h) len_need_world (hr.mono (by omega)) (by rfl) h.m_need_world h.F_need_world.kp (bi_need_world h) (Air.of (takes_def (CXx := L2.CX P w))) (da_cons (de_var (pv 0)) da_nil)))
  (dss_cons (ds_expr (de_call (ok_need_letters h) len_need_letters (hr.mono (by omega)) (by rfl) h.m_need_letters h.F_need_letters.kp (bi_need_letters h) (Air.of (takes_def (CXx := L2.CX P w))) (da_cons (de_var (pv 1)) da_nil)))
  (dss_one (ds_ret (de_call (ok_need_edits h) len_need_edits (hr.mono (by omega)) (by rfl) h.m_need_edits h.F_need_edits.kp (bi_need_edits h) (Air.of (takes_def (CXx := L2.CX P w))) (da_cons (de_var (pv 0)) (da_cons (de_var (pv 1)) (da_cons (de_var (pv 2)) da_nil))))))))
theorem nd_message_of : (["world", "edit"] : List Str).Nodup := by decide +kernel
theorem sc_message_of : FnScope ["world", "edit"] ["world", "edit"] (defScope (top 17)) := ⟨rfl, rfl, rfl, nd_message_of, rfl, by decide +kernel, by decide +kernel⟩
theorem bi_message_of (h : GOk K mg base w g) : Binds K g.d_message_of ["world", "edit"] [] := h.F_message_of.bindsN fun _ _ _ _ _ _ us hl => match us, hl with | [_, _], _ => rfl
theorem len_message_of (sl : List Sl) (e : sl.length ≠ 2) : D_message_of sl = .st := fnOf_len _ e
theorem ok_message_of (h : GOk K mg base w g) : FnOk P w K mg base (L2.CX P w) 1 g.f_message_of g.d_message_of ["world", "edit"] (SpOf K g.tg 2 D_message_of) :=
  def_ok (k := 0) (h.F_message_of) sc_message_of rfl rfl fun cdv A outer s H E hr => (dss_one (ds_ret (de_x (dx_if (dc_in (ru hr) (by rfl) (do_n (pv 0)) (do_v (de_con (by rfl) h.con_HIDDEN))).vt (dx_sl (do_n (pv 1)) dp_no (dp_at de_int)) (dx_v (de_var (pv 1)))))))
theorem nd_told : (["world", "letters", "edits", "edit"] : List Str).Nodup := by decide +kernel
theorem sc_told : FnScope ["world", "letters", "edits", "edit"] ["world", "letters", "edits"] (defScope (top 25)) := ⟨rfl, rfl, rfl, nd_told, rfl, by decide +kernel, by decide +kernel⟩
theorem bi_told (h : GOk K mg base w g) : Binds K g.d_told ["world", "letters", "edits"] [] := h.F_told.bindsN fun _ _ _ _ _ _ us hl => match us, hl with | [_, _, _], _ => rfl
theorem len_told (sl : List Sl) (e : sl.length ≠ 3) : D_told sl = .st := fnOf_len _ e
theorem ok_told (h : GOk K mg base w g) : FnOk P w K mg base (L2.CX P w) 35 g.f_told g.d_told ["world", "letters", "edits"] (SpOf K g.tg 3 D_told) :=
  def_ok (k := 34) (h.F_told) sc_told rfl rfl fun cdv A outer s H E hr => (dss_cons (ds_expr (de_call (ok_need_world h) len_need_world (hr.mono (by omega)) (by rfl) h.m_need_world h.F_need_world.kp (bi_need_world h) (Air.of (takes_def (CXx := L2.CX P w))) (da_cons (de_var (pv 0)) da_nil)))
  (dss_cons (ds_expr (de_call (ok_need_letters h) len_need_letters (hr.mono (by omega)) (by rfl) h.m_need_letters h.F_need_letters.kp (bi_need_letters h) (Air.of (takes_def (CXx := L2.CX P w))) (da_cons (de_var (pv 1)) da_nil)))
  (dss_cons (ds_expr (de_call (ok_need_edits h) len_need_edits (hr.mono (by omega)) (by rfl) h.m_need_edits h.F_need_edits.kp (bi_need_edits h) (Air.of (takes_def (CXx := L2.CX P w))) (da_cons (de_var (pv 0)) (da_cons (de_var (pv 1)) (da_cons (de_var (pv 2)) da_nil)))))
  (dss_one (ds_ret (de_x (dx_tuple (by rfl) h.n_tuple (da_o (do_v (de_fz (dl_lc (own := [("edit", 3)]) (by rfl) nd_told (di_seq (de_var (pv 2))) (blkOk_by (by kernel_rfl)) (fun _ _ _ _ _ => (dg_name (pg_name nd_told (by rfl) (by first | exact .inl rfl | exact .inr rfl)))) (fun _ _ _ _ _ => dts_nil) (fun _ _ _ _ _ => (de_call (ok_message_of h) len_message_of (hr.mono (by omega)) (by rfl) h.m_message_of h.F_message_of.kp (bi_message_of h) Air.none (da_cons (de_var (pv 0)) (da_cons (de_var (pv 3)) da_nil))))))) da_nil))))))))
theorem nd_law : (["_law_script", "_law_row", "_law_world_here", "_law_letters", "_law_edits_here", "_law_texts", "_law_some", "_law_turn", "_law_at", "_law_edit", "_law_bent", "_law_text", "_law_wrong", "_law_number", "_law_one", "_law_due", "_law_fine", "_law_good"] : List Str).Nodup := by decide +kernel
theorem sc_law : FnScope ["_law_script", "_law_row", "_law_world_here", "_law_letters", "_law_edits_here", "_law_texts", "_law_some", "_law_turn", "_law_at", "_law_edit", "_law_bent", "_law_text", "_law_wrong", "_law_number", "_law_one", "_law_due", "_law_fine", "_law_good"] ["_law_script"] (defScope (top 39)) := ⟨rfl, rfl, rfl, nd_law, rfl, by decide +kernel, by decide +kernel⟩
theorem bi_law (h : GOk K mg base w g) : Binds K g.d_law ["_law_script"] [] := h.F_law.bindsN fun _ _ _ _ _ _ us hl => match us, hl with | [_], _ => rfl
theorem len_law (sl : List Sl) (e : sl.length ≠ 1) : D_law sl = .st := fnOf_len _ e
theorem ok_law (h : GOk K mg base w g) : FnOk P w K mg base (L2.CX P w) 39 g.f_law g.d_law ["_law_script"] (SpOf K g.tg 1 D_law) :=
  def_okC (k := 38) (h.F_law) h.k_law sc_law rfl rfl fun A outer s H E hr => (dss_cons (ds_setN (i := 1) nd_law (by rfl) (by first | exact .inl rfl | exact .inr rfl) (dx_l (dl_lst (da_cons (de_var (pv 0)) (da_cons de_int (da_cons de_int (da_cons de_int da_nil)))))) (by rfl) (by first | exact .inl rfl | exact .inr rfl))
  (dss_cons (ds_parG (is := [2, 3]) (by rfl) (pgs_cons (pg_name nd_law (i := 2) (by rfl) (by first | exact .inl rfl | exact .inr rfl)) (pgs_cons (pg_name nd_law (i := 3) (by rfl) (by first | exact .inl rfl | exact .inr rfl)) pgs_nil)) (by rfl) (dax_cons (dx_v (de_call (ok__law_world h) len__law_world (hr.mono (by omega)) (by rfl) h.m__law_world h.F__law_world.kp (bi__law_world h) (Air.of (takes_def (CXx := L2.CX P w))) (da_io (pv 1) da_nil))) (dax_cons (dx_add (do_v de_int) (do_v (de_call (ok__law_taken h) len__law_taken (hr.mono (by omega)) (by rfl) h.m__law_taken h.F__law_taken.kp (bi__law_taken h) (Air.of (takes_def (CXx := L2.CX P w))) (da_io (pv 1) (da_cons de_int da_nil))))) dax_nil)))
  (dss_cons (ds_if (dt_not (dt_val (de_call (ok__law_alike h 6) (len__law_alike _) (hr.mono (by omega)) (by rfl) h.m__law_alike h.F__law_alike.kp (bi__law_alike h) (Air.of (takes_def (CXx := L2.CX P w))) (da_cons (de_call (ok_messages h) len_messages (hr.mono (by omega)) (by rfl) h.m_messages h.F_messages.kp (bi_messages h) (Air.of (takes_def (CXx := L2.CX P w))) (da_cons (de_var (pv 2)) (da_cons (de_var (pv 3)) da_nil))) (da_cons (de_x (dx_tuple (by rfl) h.n_tuple (da_o (do_v (de_call (ok__law_messages h) len__law_messages (hr.mono (by omega)) (by rfl) h.m__law_messages h.F__law_messages.kp (bi__law_messages h) (Air.of (takes_def (CXx := L2.CX P w))) (da_cons (de_var (pv 2)) (da_cons (de_var (pv 3)) da_nil)))) da_nil))) da_nil))))) (dss_one (ds_ret de_bl)) dss_nil)
  (dss_cons (ds_asg (ps_asg (de_call (ok__law_history h) len__law_history (hr.mono (by omega)) (by rfl) h.m__law_history h.F__law_history.kp (bi__law_history h) (Air.of (takes_def (CXx := L2.CX P w))) (da_io (pv 1) (da_cons (de_var (pv 2)) (da_cons (de_var (pv 3)) (da_cons (de_call (ok__law_taken h) len__law_taken (hr.mono (by omega)) (by rfl) h.m__law_taken h.F__law_taken.kp (bi__law_taken h) (Air.of (takes_def (CXx := L2.CX P w))) (da_io (pv 1) (da_cons de_int da_nil))) da_nil))))) (dg_tup (by rfl) (dgs_cons (dg_name (pg_name nd_law (by rfl) (by first | exact .inl rfl | exact .inr rfl))) (dgs_cons (dg_name (pg_name nd_law (by rfl) (by first | exact .inl rfl | exact .inr rfl))) dgs_nil)))) fun _ _ _ q => q)
  (dss_cons (ds_if (dt_not (dt_val (de_call (ok__law_alike h 6) (len__law_alike _) (hr.mono (by omega)) (by rfl) h.m__law_alike h.F__law_alike.kp (bi__law_alike h) (Air.of (takes_def (CXx := L2.CX P w))) (da_cons (de_call (ok_text_after h) len_text_after (hr.mono (by omega)) (by rfl) h.m_text_after h.F_text_after.kp (bi_text_after h) (Air.of (takes_def (CXx := L2.CX P w))) (da_cons (de_var (pv 2)) (da_cons (de_var (pv 3)) (da_cons (de_var (pv 4)) da_nil)))) (da_cons (de_ix (do_n (pv 5)) (do_v (de_neg de_int)) (by intro _ _; rfl)) da_nil))))) (dss_one (ds_ret de_bl)) dss_nil)
  (dss_cons (ds_if (dt_not (dt_val (de_call (ok__law_alike h 6) (len__law_alike _) (hr.mono (by omega)) (by rfl) h.m__law_alike h.F__law_alike.kp (bi__law_alike h) (Air.of (takes_def (CXx := L2.CX P w))) (da_cons (de_call (ok_told h) len_told (hr.mono (by omega)) (by rfl) h.m_told h.F_told.kp (bi_told h) (Air.of (takes_def (CXx := L2.CX P w))) (da_cons (de_var (pv 2)) (da_cons (de_var (pv 3)) (da_cons (de_var (pv 4)) da_nil)))) (da_cons (de_x (dx_tuple (by rfl) h.n_tuple (da_o (do_v (de_call (ok__law_said h) len__law_said (hr.mono (by omega)) (by rfl) h.m__law_said h.F__law_said.kp (bi__law_said h) (Air.of (takes_def (CXx := L2.CX P w))) (da_cons (de_var (pv 2)) (da_cons (de_var (pv 4)) da_nil)))) da_nil))) da_nil))))) (dss_one (ds_ret de_bl)) dss_nil)
  (dss_cons (ds_setN (i := 6) nd_law (by rfl) (by first | exact .inl rfl | exact .inr rfl) (dx_l (dl_lst (da_cons (de_tup (da_cons de_str (da_cons de_int da_nil))) (da_cons (de_tup (da_cons de_str (da_cons de_int (da_cons de_int da_nil)))) (da_cons (de_tup (da_cons de_str (da_cons de_int da_nil))) (da_cons (de_tup (da_cons de_str (da_cons de_int da_nil))) (da_cons (de_tup (da_cons de_str (da_cons de_int da_nil))) (da_cons (de_tup (da_cons de_str (da_cons de_int (da_cons de_int da_nil)))) (da_cons (de_tup (da_cons de_str da_nil)) da_nil))))))))) (by rfl) (by first | exact .inl rfl | exact .inr rfl))
  (dss_cons (ds_setN (i := 6) nd_law (by rfl) (by first | exact .inl rfl | exact .inr rfl) (dx_add (do_n (pv 6)) (do_v (de_fz (dl_lst (da_cons (de_tup (da_cons de_str (da_cons (de_var (pv 3)) da_nil))) (da_cons (de_tup (da_cons de_str (da_cons de_bl da_nil))) (da_cons (de_tup (da_cons de_str (da_cons de_int (da_cons de_int da_nil)))) (da_cons (de_tup (da_cons de_str (da_cons de_int (da_cons de_int da_nil)))) (da_cons de_non (da_cons (de_tup da_nil) (da_cons (de_fz (dl_lst (da_cons de_str (da_cons de_int da_nil)))) da_nil))))))))))) (by rfl) (by first | exact .inl rfl | exact .inr rfl))
  (dss_cons (ds_setN (i := 6) nd_law (by rfl) (by first | exact .inl rfl | exact .inr rfl) (dx_add (do_n (pv 6)) (do_v (de_fz (dl_lst (da_cons (de_tup (da_cons de_str (da_cons (de_fz (dl_lst (da_cons de_int da_nil))) da_nil))) (da_cons de_str (da_cons (de_tup (da_cons de_str (da_cons (de_tup (da_cons de_int da_nil)) da_nil))) da_nil))))))) (by rfl) (by first | exact .inl rfl | exact .inr rfl))
  (dss_cons (ds_setN (i := 6) nd_law (by rfl) (by first | exact .inl rfl | exact .inr rfl) (dx_add (do_n (pv 6)) (do_v (de_fz (dl_lst (da_cons (de_tup (da_cons de_str (da_cons (de_tup (da_cons de_int (da_cons de_int da_nil))) da_nil))) (da_cons (de_tup (da_cons de_str (da_cons (de_tup (da_cons de_int (da_cons de_int da_nil))) da_nil))) (da_cons (de_tup (da_cons de_str (da_cons de_int da_nil))) (da_cons (de_tup (da_cons de_str (da_cons (de_sub (do_v de_int) (do_v de_int)) da_nil))) (da_cons (de_tup (da_cons de_str (da_cons de_int (da_cons de_bl da_nil)))) (da_cons (de_tup (da_cons de_str da_nil)) da_nil)))))))))) (by rfl) (by first | exact .inl rfl | exact .inr rfl))
  (dss_cons (ds_for passes_def (by rfl) (di_range1 (by rfl) h.n_range (da_cons de_int da_nil)) (dg_name (pg_name nd_law (by rfl) (by first | exact .inl rfl | exact .inr rfl))) (dss_cons (ds_par2 (i := 8) (j := 9) (by rfl) nd_law (by rfl) (by rfl) (by decide) (by rfl) (by rfl) (dax_cons (dx_v (de_call (ok__law_taken h) len__law_taken (hr.mono (by omega)) (by rfl) h.m__law_taken h.F__law_taken.kp (bi__law_taken h) (Air.of (takes_def (CXx := L2.CX P w))) (da_io (pv 1) (da_cons (de_x (dx_add (do_v (de_x (dx_len (by rfl) h.n_len (da_o (do_n (pv 4)) da_nil)))) (do_v de_int))) da_nil)))) (dax_cons (dx_v (de_call (ok__law_pick h) len__law_pick (hr.mono (by omega)) (by rfl) h.m__law_pick h.F__law_pick.kp (bi__law_pick h) (Air.of (takes_def (CXx := L2.CX P w))) (da_io (pv 1) (da_cons (de_var (pv 6)) da_nil)))) dax_nil)) (by rfl))
  (dss_cons (ds_parG (is := [10, 11, 12]) (by rfl) (pgs_cons (pg_name nd_law (i := 10) (by rfl) (by first | exact .inl rfl | exact .inr rfl)) (pgs_cons (pg_name nd_law (i := 11) (by rfl) (by first | exact .inl rfl | exact .inr rfl)) (pgs_cons (pg_name nd_law (i := 12) (by rfl) (by first | exact .inl rfl | exact .inr rfl)) pgs_nil))) (by rfl) (dax_cons (dx_add (do_v (de_x (dx_add (do_v (de_x (dx_sl (do_n (pv 4)) dp_no (dp_at (de_var (pv 8)))))) (do_v (de_tup (da_cons (de_var (pv 9)) da_nil)))))) (do_v (de_x (dx_sl (do_n (pv 4)) (dp_at (de_var (pv 8))) dp_no)))) (dax_cons (dx_v (de_tup da_nil)) (dax_cons (dx_v de_non) dax_nil))))
  (dss_cons (ds_for passes_def (by rfl) (di_enum (by rfl) h.n_enumerate (da_cons (de_var (pv 10)) da_nil)) (dg_tup (by rfl) (dgs_cons (dg_name (pg_name nd_law (by rfl) (by first | exact .inl rfl | exact .inr rfl))) (dgs_cons (dg_name (pg_name nd_law (by rfl) (by first | exact .inl rfl | exact .inr rfl))) dgs_nil))) (dss_one (ds_if (dc_is (by rfl) (do_n (pv 12)) (do_v de_non)).vt (dss_cons (ds_setN (i := 16) nd_law (by rfl) (by first | exact .inl rfl | exact .inr rfl) (dx_v (dc_ne (ru hr) (by rfl) (do_v (de_fz (dl_lc (own := [("_law_good", 17)]) (by rfl) nd_law (di_seq (de_call (ok__law_edits h) len__law_edits (hr.mono (by omega)) (by rfl) h.m__law_edits h.F__law_edits.kp (bi__law_edits h) (Air.of (takes_def (CXx := L2.CX P w))) (da_cons (de_var (pv 2)) (da_cons (de_var (pv 3)) (da_cons (de_var (pv 11)) da_nil))))) (blkOk_by (by kernel_rfl)) (fun _ _ _ _ _ => (dg_name (pg_name nd_law (by rfl) (by first | exact .inl rfl | exact .inr rfl)))) (fun _ _ _ _ _ => (dts_one (dt_val (de_call (ok__law_alike h 6) (len__law_alike _) (hr.mono (by omega)) (by rfl) h.m__law_alike h.F__law_alike.kp (bi__law_alike h) Air.none (da_cons (de_var (pv 14)) (da_cons (de_var (pv 17)) da_nil)))))) (fun _ _ _ _ _ => (de_var (pv 17)))))) (do_v (de_fz (dl_lst da_nil)))).ve) (by rfl) (by first | exact .inl rfl | exact .inr rfl))
  (dss_cons (ds_setN (i := 12) nd_law (by rfl) (by first | exact .inl rfl | exact .inr rfl) (dx_v (de_if (dt_val (de_var (pv 16))) de_non (de_var (pv 13)))) (by rfl) (by first | exact .inl rfl | exact .inr rfl))
  (dss_one (ds_setN (i := 11) nd_law (by rfl) (by first | exact .inl rfl | exact .inr rfl) (dx_v (de_if (dt_val (de_var (pv 16))) (de_call (ok__law_done h) len__law_done (hr.mono (by omega)) (by rfl) h.m__law_done h.F__law_done.kp (bi__law_done h) (Air.of (takes_def (CXx := L2.CX P w))) (da_cons (de_var (pv 2)) (da_cons (de_var (pv 11)) (da_cons (de_var (pv 14)) da_nil)))) (de_var (pv 11)))) (by rfl) (by first | exact .inl rfl | exact .inr rfl))))) dss_nil)))
  (dss_cons (ds_setN (i := 15) nd_law (by rfl) (by first | exact .inl rfl | exact .inr rfl) (dx_if (dc_is (by rfl) (do_n (pv 12)) (do_v de_non)).vt (dx_v (de_var (pv 11))) (dx_l (dl_lst (da_cons de_str (da_cons (de_var (pv 12)) da_nil))))) (by rfl) (by first | exact .inl rfl | exact .inr rfl))
  (dss_one (ds_if (dt_not (dt_val (de_call (ok__law_alike h 6) (len__law_alike _) (hr.mono (by omega)) (by rfl) h.m__law_alike h.F__law_alike.kp (bi__law_alike h) (Air.of (takes_def (CXx := L2.CX P w))) (da_cons (de_told (k := 35) (by rfl) h.m__law_told h.F__law_told (bi__law_told h) sc__law_told rfl (by first | exact .inl rfl | exact .inr (.inl rfl)) h.x_BadEdits (fun cdg => told_tag nd__law_told (by first | exact .inl rfl | exact .inr (.inl rfl)) rfl rfl h.x_BadEdits h.is_BadEdits rfl h.m_KeeperError (by decide) rfl h.n_isinstance rfl (by decide) (by decide) (by decide) (by decide) (by decide)) h.t_law rfl (tg_law h) (hr.mono (by omega)) (LamX.lamS_by (by kernel_rfl)) rfl (fun _ _ _ _ _ => rfl) (fun A1 _ _ _ _ _ _ hrL => (de_call (ok_text_after h) len_text_after (hrL.mono (by omega)) (by rfl) h.m_text_after h.F_text_after.kp (bi_text_after h) (Air.of (takes_of rfl rfl rfl rfl)) (da_cons (de_var (pv 2)) (da_cons (de_var (pv 3)) (da_cons (de_var (pv 10)) da_nil)))))) (da_cons (de_var (pv 15)) da_nil))))) (dss_one (ds_ret de_bl)) dss_nil)))))))
  (dss_one (ds_ret de_bl)))))))))))))
end
end K02

end
section
/-! printed by pr.py: the head -/
namespace K02
open PySem PySem.Spec PyProof.Rows L2 TW
def dd__law_alike : He.DefD := ⟨("_law_alike", none), "_law_alike", "_law_alike", defArgs (top 31), defBody (top 31), defScope (top 31), [], []⟩
def dd__law_done : He.DefD := ⟨("_law_done", none), "_law_done", "_law_done", defArgs (top 35), defBody (top 35), defScope (top 35), [], []⟩
def dd__law_orders : He.DefD := ⟨("_law_orders", none), "_law_orders", "_law_orders", defArgs (top 32), defBody (top 32), defScope (top 32), [], []⟩
def dd__law_messages : He.DefD := ⟨("_law_messages", none), "_law_messages", "_law_messages", defArgs (top 33), defBody (top 33), defScope (top 33), [], []⟩
def dd__law_edits : He.DefD := ⟨("_law_edits", none), "_law_edits", "_law_edits", defArgs (top 34), defBody (top 34), defScope (top 34), [], []⟩
def dd__law_taken : He.DefD := ⟨("_law_taken", none), "_law_taken", "_law_taken", defArgs (top 28), defBody (top 28), defScope (top 28), [], []⟩
def dd__law_pick : He.DefD := ⟨("_law_pick", none), "_law_pick", "_law_pick", defArgs (top 29), defBody (top 29), defScope (top 29), [], []⟩
def dd__law_history : He.DefD := ⟨("_law_history", none), "_law_history", "_law_history", defArgs (top 36), defBody (top 36), defScope (top 36), [], []⟩
def dd__law_said : He.DefD := ⟨("_law_said", none), "_law_said", "_law_said", defArgs (top 37), defBody (top 37), defScope (top 37), [], []⟩
def dd__law_told : He.DefD := ⟨("_law_told", none), "_law_told", "_law_told", defArgs (top 38), defBody (top 38), defScope (top 38), [], []⟩
def dd__law_world : He.DefD := ⟨("_law_world", none), "_law_world", "_law_world", defArgs (top 30), defBody (top 30), defScope (top 30), [], []⟩
def dd_orders : He.DefD := ⟨("orders", none), "orders", "orders", defArgs (top 15), defBody (top 15), defScope (top 15), [], []⟩
def dd_all_messages : He.DefD := ⟨("all_messages", none), "all_messages", "all_messages", defArgs (top 16), defBody (top 16), defScope (top 16), [], []⟩
def dd_is_number : He.DefD := ⟨("is_number", none), "is_number", "is_number", defArgs (top 8), defBody (top 8), defScope (top 8), [], []⟩
def dd_need_letters : He.DefD := ⟨("need_letters", none), "need_letters", "need_letters", defArgs (top 18), defBody (top 18), defScope (top 18), [], []⟩
def dd_need_world : He.DefD := ⟨("need_world", none), "need_world", "need_world", defArgs (top 14), defBody (top 14), defScope (top 14), [], []⟩
def dd_messages : He.DefD := ⟨("messages", none), "messages", "messages", defArgs (top 26), defBody (top 26), defScope (top 26), [], []⟩
def dd_done : He.DefD := ⟨("done", none), "done", "done", defArgs (top 21), defBody (top 21), defScope (top 21), [], []⟩
def dd_is_like : He.DefD := ⟨("is_like", none), "is_like", "is_like", defArgs (top 19), defBody (top 19), defScope (top 19), [], []⟩
def dd_is_edit : He.DefD := ⟨("is_edit", none), "is_edit", "is_edit", defArgs (top 20), defBody (top 20), defScope (top 20), [], []⟩
def dd_first_wrong_edit : He.DefD := ⟨("first_wrong_edit", none), "first_wrong_edit", "first_wrong_edit", defArgs (top 22), defBody (top 22), defScope (top 22), [], []⟩
def dd_need_edits : He.DefD := ⟨("need_edits", none), "need_edits", "need_edits", defArgs (top 23), defBody (top 23), defScope (top 23), [], []⟩
def dd_text_after : He.DefD := ⟨("text_after", none), "text_after", "text_after", defArgs (top 24), defBody (top 24), defScope (top 24), [], []⟩
def dd_message_of : He.DefD := ⟨("message_of", none), "message_of", "message_of", defArgs (top 17), defBody (top 17), defScope (top 17), [], []⟩
def dd_told : He.DefD := ⟨("told", none), "told", "told", defArgs (top 25), defBody (top 25), defScope (top 25), [], []⟩
def dd_law : He.DefD := ⟨("law", none), "law", "law", defArgs (top 39), defBody (top 39), defScope (top 39), [], []⟩
def ddI_BadEdits : He.DefD := ⟨("BadEdits", some "__init__"), "__init__", "BadEdits.__init__", defArgs (cdef 3), defBody (cdef 3), defScope (cdef 3), [], []⟩
def hfn : List He.DefD := [dd__law_alike, dd__law_done, dd__law_orders, dd__law_messages, dd__law_edits, dd__law_taken, dd__law_pick, dd__law_history, dd__law_said, dd__law_told, dd__law_world, dd_orders, dd_all_messages, dd_is_number, dd_need_letters, dd_need_world, dd_messages, dd_done, dd_is_like, dd_is_edit, dd_first_wrong_edit, dd_need_edits, dd_text_after, dd_message_of, dd_told, dd_law, ddI_BadEdits]
def hfa : List He.Fa := [.glo "_law_alike", .glo "_law_done", .glo "_law_orders", .glo "_law_messages", .glo "_law_edits", .glo "_law_taken", .glo "_law_pick", .glo "_law_history", .glo "_law_said", .glo "_law_told", .glo "_law_world", .glo "orders", .glo "all_messages", .glo "is_number", .glo "need_letters", .glo "need_world", .glo "messages", .glo "done", .glo "is_like", .glo "is_edit", .glo "first_wrong_edit", .glo "need_edits", .glo "text_after", .glo "message_of", .glo "told", .glo "law", .free "all", .free "any", .free "bool", .free "enumerate", .free "int", .free "isinstance", .free "len", .free "list", .free "range", .free "sorted", .free "str", .free "tuple", .free "zip", .glo "KINDS", .glo "BadEdits", .glo "KeeperError"]
def hts : List He.Tab := [(fun K => He.ga K "KINDS", ["end", "ends", "stack", "deque", "in", "inout", "relabel", "reverse"])]
def htf : List He.Defn := [("is_like", none), ("is_edit", none), ("law", none)]
def hex (K : PySem.W.Frag) : Bool := (decide ((htf.map fun p => (He.cT K p).2).Nodup) && (TW.conB K "HIDDEN" con_HIDDEN && (TW.conB K "MOST_EDITS" con_MOST_EDITS && (TW.conB K "MOST_LETTERS" con_MOST_LETTERS && (TW.conB K "MOST_TEXT" con_MOST_TEXT && (TW.conB K "WORLDS" con_WORLDS && (TW.ktB K "KINDS" tab_KINDS && (TW.xclsB K "BadEdits" "index" && (TW.xisB K "BadEdits" "KeeperError" && true)))))))))
def kq (p : He.Defn) : Option Str := if p.1 = "law" then some lq_law else none
abbrev R : PySem.W.OpenRow := PySem.W.OpenLaw.row PySem.Challenge.rw_toldwhat_k02_whole_worlds
abbrev hk : PySem.W.Hook := He.hookX 4 hfa hfn hts htf hex
def ob (s : PySem.W.SharedT) : He.AlX := He.obsX 4 hfa hfn hts htf hex (HandSHeadRun.getT s)
theorem ob_eq (s : PySem.W.SharedT) : ob s = hk.obs s.abs := He.obsX_eq (HandSHeadRun.getT_eq s)
def loose : List Str := ("KeeperError" : Str) :: ("BadWorld" : Str) :: ("BadEdits" : Str) :: ("BadNumber" : Str) :: ("MOST_LETTERS" : Str) :: ("MOST_TEXT" : Str) :: ("is_number" : Str) :: ("WORLDS" : Str) :: ("KINDS" : Str) :: ("HIDDEN" : Str) :: ("MOST_EDITS" : Str) :: ("need_world" : Str) :: ("orders" : Str) :: ("all_messages" : Str) :: ("message_of" : Str) :: ("need_letters" : Str) :: ("is_like" : Str) :: ("is_edit" : Str) :: ("done" : Str) :: ("first_wrong_edit" : Str) :: ("need_edits" : Str) :: ("text_after" : Str) :: ("told" : Str) :: ("messages" : Str) :: ("_law_taken" : Str) :: ("_law_pick" : Str) :: ("_law_world" : Str) :: ("_law_alike" : Str) :: ("_law_orders" : Str) :: ("_law_messages" : Str) :: ("_law_edits" : Str) :: ("_law_done" : Str) :: ("_law_history" : Str) :: ("_law_said" : Str) :: ("_law_told" : Str) :: []
theorem run (w : World) : HandSHeadRun.RunEq R (PySem.W.view R.prog [39]) hk ob 4000 loose w := by
  refine TW.run_ft (p := fun w => HandSHeadRun.RunEq R (PySem.W.view R.prog [39]) hk ob 4000 loose w) (fun w b => ?_) w
  cases b
  · intro os; kernel_rfl
  · intro os; kernel_rfl
theorem gok {w : World} {K : PySem.W.Frag} {h : Heap} {mg : Str → Option Value} (X : K.In h) (G : h.Ns mainGlobals mg) (c : He.SaysX hfa hfn hts htf hex w h K) : ∃ g : Gd, g.f_law = He.ga K "law" ∧ g.tg = htf.map (fun p => (⟨(He.cT K p).2, kq p⟩ : TbK)) ∧ (∀ (s : Shared) (v : Value), BindsTo s g.d_law ⟨[v], []⟩ [("_law_script", v)]) ∧ ∀ base : Heap, (∀ p ∈ htf, GxR.TabB base mg (He.cT K p).1 (He.cT K p).2) → GOk K mg base w g := by
  obtain ⟨d0, F0⟩ := c.t.d.def_ 0 (d := dd__law_alike) rfl
  obtain ⟨d1, F1⟩ := c.t.d.def_ 1 (d := dd__law_done) rfl
  obtain ⟨d2, F2⟩ := c.t.d.def_ 2 (d := dd__law_orders) rfl
  obtain ⟨d3, F3⟩ := c.t.d.def_ 3 (d := dd__law_messages) rfl
  obtain ⟨d4, F4⟩ := c.t.d.def_ 4 (d := dd__law_edits) rfl
  obtain ⟨d5, F5⟩ := c.t.d.def_ 5 (d := dd__law_taken) rfl
  obtain ⟨d6, F6⟩ := c.t.d.def_ 6 (d := dd__law_pick) rfl
  obtain ⟨d7, F7⟩ := c.t.d.def_ 7 (d := dd__law_history) rfl
  obtain ⟨d8, F8⟩ := c.t.d.def_ 8 (d := dd__law_said) rfl
  obtain ⟨d9, F9⟩ := c.t.d.def_ 9 (d := dd__law_told) rfl
  obtain ⟨d10, F10⟩ := c.t.d.def_ 10 (d := dd__law_world) rfl
  obtain ⟨d11, F11⟩ := c.t.d.def_ 11 (d := dd_orders) rfl
  obtain ⟨d12, F12⟩ := c.t.d.def_ 12 (d := dd_all_messages) rfl
  obtain ⟨d13, F13⟩ := c.t.d.def_ 13 (d := dd_is_number) rfl
  obtain ⟨d14, F14⟩ := c.t.d.def_ 14 (d := dd_need_letters) rfl
  obtain ⟨d15, F15⟩ := c.t.d.def_ 15 (d := dd_need_world) rfl
  obtain ⟨d16, F16⟩ := c.t.d.def_ 16 (d := dd_messages) rfl
  obtain ⟨d17, F17⟩ := c.t.d.def_ 17 (d := dd_done) rfl
  obtain ⟨d18, F18⟩ := c.t.d.def_ 18 (d := dd_is_like) rfl
  obtain ⟨d19, F19⟩ := c.t.d.def_ 19 (d := dd_is_edit) rfl
  obtain ⟨d20, F20⟩ := c.t.d.def_ 20 (d := dd_first_wrong_edit) rfl
  obtain ⟨d21, F21⟩ := c.t.d.def_ 21 (d := dd_need_edits) rfl
  obtain ⟨d22, F22⟩ := c.t.d.def_ 22 (d := dd_text_after) rfl
  obtain ⟨d23, F23⟩ := c.t.d.def_ 23 (d := dd_message_of) rfl
  obtain ⟨d24, F24⟩ := c.t.d.def_ 24 (d := dd_told) rfl
  obtain ⟨d25, F25⟩ := c.t.d.def_ 25 (d := dd_law) rfl
  obtain ⟨e0, E0⟩ := c.t.d.def_ 26 (d := ddI_BadEdits) rfl
  have hx := c.more
  simp only [hex, Bool.and_eq_true] at hx
  have b := F25.bindsA (ps := ["_law_script"]) fun _ _ _ _ _ _ us hl => match us, hl with | [_], _ => rfl
  refine ⟨{ f__law_alike := He.fAd K ("_law_alike", none), d__law_alike := d0, f__law_done := He.fAd K ("_law_done", none), d__law_done := d1, f__law_orders := He.fAd K ("_law_orders", none), d__law_orders := d2, f__law_messages := He.fAd K ("_law_messages", none), d__law_messages := d3, f__law_edits := He.fAd K ("_law_edits", none), d__law_edits := d4, f__law_taken := He.fAd K ("_law_taken", none), d__law_taken := d5, f__law_pick := He.fAd K ("_law_pick", none), d__law_pick := d6, f__law_history := He.fAd K ("_law_history", none), d__law_history := d7, f__law_said := He.fAd K ("_law_said", none), d__law_said := d8, f__law_told := He.fAd K ("_law_told", none), d__law_told := d9, f__law_world := He.fAd K ("_law_world", none), d__law_world := d10, f_orders := He.fAd K ("orders", none), d_orders := d11, f_all_messages := He.fAd K ("all_messages", none), d_all_messages := d12, f_is_number := He.fAd K ("is_number", none), d_is_number := d13, f_need_letters := He.fAd K ("need_letters", none), d_need_letters := d14, f_need_world := He.fAd K ("need_world", none), d_need_world := d15, f_messages := He.fAd K ("messages", none), d_messages := d16, f_done := He.fAd K ("done", none), d_done := d17, f_is_like := He.fAd K ("is_like", none), d_is_like := d18, f_is_edit := He.fAd K ("is_edit", none), d_is_edit := d19, f_first_wrong_edit := He.fAd K ("first_wrong_edit", none), d_first_wrong_edit := d20, f_need_edits := He.fAd K ("need_edits", none), d_need_edits := d21, f_text_after := He.fAd K ("text_after", none), d_text_after := d22, f_message_of := He.fAd K ("message_of", none), d_message_of := d23, f_told := He.fAd K ("told", none), d_told := d24, f_law := He.fAd K ("law", none), d_law := d25, c_is_like := (He.cT K ("is_like", none)).1, p_is_like := (He.cT K ("is_like", none)).2, c_is_edit := (He.cT K ("is_edit", none)).1, p_is_edit := (He.cT K ("is_edit", none)).2, c_law := (He.cT K ("law", none)).1, p_law := (He.cT K ("law", none)).2, C_BadEdits := He.ga K "BadEdits", I_BadEdits := He.ma K (He.ga K "BadEdits") "__init__", dI_BadEdits := e0, K_KeeperError := He.ga K "KeeperError" }, rfl, rfl, fun s v => b s [v] rfl, fun base T => ?_⟩
  exact {
    F__law_alike := F0,
    m__law_alike := He.glo_ok X G (c.t.d.fact 0 (f := .glo "_law_alike") rfl),
    F__law_done := F1,
    m__law_done := He.glo_ok X G (c.t.d.fact 1 (f := .glo "_law_done") rfl),
    F__law_orders := F2,
    m__law_orders := He.glo_ok X G (c.t.d.fact 2 (f := .glo "_law_orders") rfl),
    F__law_messages := F3,
    m__law_messages := He.glo_ok X G (c.t.d.fact 3 (f := .glo "_law_messages") rfl),
    F__law_edits := F4,
    m__law_edits := He.glo_ok X G (c.t.d.fact 4 (f := .glo "_law_edits") rfl),
    F__law_taken := F5,
    m__law_taken := He.glo_ok X G (c.t.d.fact 5 (f := .glo "_law_taken") rfl),
    F__law_pick := F6,
    m__law_pick := He.glo_ok X G (c.t.d.fact 6 (f := .glo "_law_pick") rfl),
    F__law_history := F7,
    m__law_history := He.glo_ok X G (c.t.d.fact 7 (f := .glo "_law_history") rfl),
    F__law_said := F8,
    m__law_said := He.glo_ok X G (c.t.d.fact 8 (f := .glo "_law_said") rfl),
    F__law_told := F9,
    m__law_told := He.glo_ok X G (c.t.d.fact 9 (f := .glo "_law_told") rfl),
    F__law_world := F10,
    m__law_world := He.glo_ok X G (c.t.d.fact 10 (f := .glo "_law_world") rfl),
    F_orders := F11,
    m_orders := He.glo_ok X G (c.t.d.fact 11 (f := .glo "orders") rfl),
    F_all_messages := F12,
    m_all_messages := He.glo_ok X G (c.t.d.fact 12 (f := .glo "all_messages") rfl),
    F_is_number := F13,
    m_is_number := He.glo_ok X G (c.t.d.fact 13 (f := .glo "is_number") rfl),
    F_need_letters := F14,
    m_need_letters := He.glo_ok X G (c.t.d.fact 14 (f := .glo "need_letters") rfl),
    F_need_world := F15,
    m_need_world := He.glo_ok X G (c.t.d.fact 15 (f := .glo "need_world") rfl),
    F_messages := F16,
    m_messages := He.glo_ok X G (c.t.d.fact 16 (f := .glo "messages") rfl),
    F_done := F17,
    m_done := He.glo_ok X G (c.t.d.fact 17 (f := .glo "done") rfl),
    F_is_like := F18,
    m_is_like := He.glo_ok X G (c.t.d.fact 18 (f := .glo "is_like") rfl),
    k_is_like := code_is F18,
    t_is_like := T ("is_like", none) (by simp [htf]),
    F_is_edit := F19,
    m_is_edit := He.glo_ok X G (c.t.d.fact 19 (f := .glo "is_edit") rfl),
    k_is_edit := code_is F19,
    t_is_edit := T ("is_edit", none) (by simp [htf]),
    F_first_wrong_edit := F20,
    m_first_wrong_edit := He.glo_ok X G (c.t.d.fact 20 (f := .glo "first_wrong_edit") rfl),
    F_need_edits := F21,
    m_need_edits := He.glo_ok X G (c.t.d.fact 21 (f := .glo "need_edits") rfl),
    F_text_after := F22,
    m_text_after := He.glo_ok X G (c.t.d.fact 22 (f := .glo "text_after") rfl),
    F_message_of := F23,
    m_message_of := He.glo_ok X G (c.t.d.fact 23 (f := .glo "message_of") rfl),
    F_told := F24,
    m_told := He.glo_ok X G (c.t.d.fact 24 (f := .glo "told") rfl),
    F_law := F25,
    m_law := He.glo_ok X G (c.t.d.fact 25 (f := .glo "law") rfl),
    k_law := code_is F25,
    t_law := T ("law", none) (by simp [htf]),
    n_all := He.free_ok X G (c.t.d.fact 26 (f := .free "all") rfl),
    n_any := He.free_ok X G (c.t.d.fact 27 (f := .free "any") rfl),
    n_bool := He.free_ok X G (c.t.d.fact 28 (f := .free "bool") rfl),
    n_enumerate := He.free_ok X G (c.t.d.fact 29 (f := .free "enumerate") rfl),
    n_int := He.free_ok X G (c.t.d.fact 30 (f := .free "int") rfl),
    n_isinstance := He.free_ok X G (c.t.d.fact 31 (f := .free "isinstance") rfl),
    n_len := He.free_ok X G (c.t.d.fact 32 (f := .free "len") rfl),
    n_list := He.free_ok X G (c.t.d.fact 33 (f := .free "list") rfl),
    n_range := He.free_ok X G (c.t.d.fact 34 (f := .free "range") rfl),
    n_sorted := He.free_ok X G (c.t.d.fact 35 (f := .free "sorted") rfl),
    n_str := He.free_ok X G (c.t.d.fact 36 (f := .free "str") rfl),
    n_tuple := He.free_ok X G (c.t.d.fact 37 (f := .free "tuple") rfl),
    n_zip := He.free_ok X G (c.t.d.fact 38 (f := .free "zip") rfl),
    nd := of_decide_eq_true hx.1,
    con_HIDDEN := con_ok X G hx.2.1,
    con_MOST_EDITS := con_ok X G hx.2.2.1,
    con_MOST_LETTERS := con_ok X G hx.2.2.2.1,
    con_MOST_TEXT := con_ok X G hx.2.2.2.2.1,
    con_WORLDS := con_ok X G hx.2.2.2.2.2.1,
    tab_KINDS := kt_ok X G (c.t.d.fact 39 (f := .glo "KINDS") rfl) (c.t.tab 0) hx.2.2.2.2.2.2.1,
    FI_BadEdits := E0,
    x_BadEdits := TW.xclsB_ok (He.glo_ok X G (c.t.d.fact 40 (f := .glo "BadEdits") rfl)) hx.2.2.2.2.2.2.2.1,
    is_BadEdits := TW.xisB_ok hx.2.2.2.2.2.2.2.2.1,
    m_KeeperError := He.glo_ok X G (c.t.d.fact 41 (f := .glo "KeeperError") rfl) }
end K02
open PySem PySem.W PySem.Calls PyProof.Rows
theorem K02.holds (hD : ∀ ns : List Int, ns.length ≤ 63 → (∀ z ∈ ns, Builtin.Int.intBits z ≤ 1048576) → ∃ r, K02.D_law [.v (TW.scr ns)] = .ok (.bool true) r) : PySem.Challenge.rw_toldwhat_k02_whole_worlds.Holds := by
  w_on; o_law
  refine HandSHeadRun.head_any (r := OpenLaw.row PySem.Challenge.rw_toldwhat_k02_whole_worlds) (q := view (OpenLaw.row PySem.Challenge.rw_toldwhat_k02_whole_worlds).prog [39]) (H := K02.hk) (ob := K02.ob) (M := 4000) (loose := K02.loose) (d := HandSHeadRun.topDef (OpenLaw.row PySem.Challenge.rw_toldwhat_k02_whole_worlds).prog 39) (kwd := []) K02.ob_eq
    (by kernel_rfl) (fun s => by kernel_rfl) K02.run (by kernel_rfl) (by kernel_rfl) (by kernel_rfl) (by rfl) (by first | assumption | decide +kernel) (by decide +kernel) ⟨rfl, rfl, rfl, rfl, rfl, by decide +kernel⟩ ?hw ?hc
  case hw => w_witness2
  case hc =>
    refine LamX.walk_ofTsE (l := PySem.Challenge.rw_toldwhat_k02_whole_worlds) (n := 63) (k := 39) (x := "_law_script") (CX := fun w => L2.CX (PySem.Challenge.rw_toldwhat_k02_whole_worlds).prog w) rfl (by decide) (by kernel_rfl) ⟨rfl, by decide, by decide⟩ ?F (fun w H s e s' h => TW.cx_never w H s e s' h)
    intro w mg fa h Y G hmg0
    obtain ⟨K, KX, c⟩ := Y
    have hmg : mg ("law" : PySem.Str) = some (.ref fa) := by
      have e : (HandSHeadRun.topDef (OpenLaw.row PySem.Challenge.rw_toldwhat_k02_whole_worlds).prog 39).name = ("law" : PySem.Str) := by kernel_rfl
      rw [← e]
      exact hmg0
    obtain ⟨g, gf, gt, gb, hg⟩ := K02.gok KX G c
    have e : Value.ref fa = .ref (He.ga K "law") := Option.some.inj (hmg.symm.trans (He.glo_ok KX G (c.t.d.fact 25 (f := .glo "law") rfl)))
    cases e
    refine ⟨K, KX, TW.law_at (tf := K02.htf) (D := K02.D_law) (kq := K02.kq) c.empty c.out c.hd KX gb hD fun base X' G' T => ?_⟩
    have z := K02.ok_law (P := (PySem.Challenge.rw_toldwhat_k02_whole_worlds).prog) (hg base T)
    rw [gf, gt] at z
    exact z

end
section
/-! the plain law of k09 -/
namespace K02
open PySem PySem.Spec PyProof.Rows L2 TW
def row (ns : List Int) (i h c : Int) : List PyData := [scr ns, .int i, .int h, .int c]
theorem taken1 {ns : List Int} {i h c m : Int} (hm : 0 < m) (hm2 : m < 1073741824) (hc : 0 < c) :
    D__law_taken [.io (row ns i h c), .v (.int m)] = .ok (.int (c % m)) [.io (row ns i h (c / m)), .v (.int m), .v (.int (c % m)), .un] := by
  simp [D__law_taken, fnOf, row, sSeq, sIf, dBin, two, oV, oN, dC, M.bind, Res.bind, M.ret, reso, fIx, M.opt, asB, fGt, fCmp, hc, sSetX, xV, tSetX, fMod, fInt, dFx, xFn, aO, aNil, resA, fToInt, hm, sPutN, fDiv, hm2, sRet, dVar, ownAt, Sl.own, atI, ixN, tSet, tPut, TW.putAt, setAt, Sl.put]
theorem taken2 {ns : List Int} {i h c m : Int} (hm : 0 < m) (hm2 : m < 1073741824) (hc : ¬ 0 < c) (hi : (ns.length : Int) < i + 1) :
    D__law_taken [.io (row ns i h c), .v (.int m)] = .ok (.int ((h * 48271 + 11) % 2147483647 / 7 % m)) [.io (row ns (i + 1) ((h * 48271 + 11) % 2147483647) c), .v (.int m), .un, .un] := by
  simp [D__law_taken, fnOf, row, sSeq, sIf, dBin, two, oV, oN, dC, M.bind, Res.bind, M.ret, reso, fIx, M.opt, asB, fGt, fCmp, hc, sSetX, xV, tSetX, fMod, fInt, dFx, xFn, aO, aNil, resA, fToInt, hm, sPutN, fDiv, hm2, sRet, dVar, ownAt, Sl.own, atI, ixN, tSet, tPut, TW.putAt, setAt, Sl.put, sNil, xBin, fAdd, fMul, fLen, scr, hi]
theorem taken3 {ns : List Int} {i h c m x : Int} {j : Nat} (hm : 0 < m) (hm2 : m < 1073741824) (hc : ¬ 0 < c) (hj : i = j) (hx : ns[j]? = some x) : ∃ out,
    D__law_taken [.io (row ns i h c), .v (.int m)] = .ok (.int (x % m)) (.io (row ns (i + 1) ((h * 48271 + x + 11) % 2147483647) (if 1000000000000000000 ≤ x then x / m else c)) :: out) := by
  have hl : j < ns.length := (List.getElem?_eq_some_iff.mp hx).1
  have hi : ¬ ((ns.length : Int) < i + 1) := by omega
  have h1 : i + 1 - 1 = (j : Int) := by omega
  have h2 : ((j : Int) < (ns.length : Int)) := by omega
  by_cases hb : (1000000000000000000 : Int) ≤ x
  · simp [D__law_taken, fnOf, row, sSeq, sIf, dBin, two, oV, oN, dC, M.bind, Res.bind, M.ret, reso, fIx, M.opt, asB, fGt, fCmp, hc, sSetX, xV, tSetX, fMod, fInt, dFx, xFn, aO, aNil, resA, fToInt, hm, sPutN, fDiv, hm2, sRet, dVar, ownAt, Sl.own, atI, ixN, tSet, tPut, TW.putAt, setAt, Sl.put, sNil, xBin, fAdd, fMul, fLen, scr, hi, fSub, h1, h2, hx, fPow, fGe, hb]
  · simp [D__law_taken, fnOf, row, sSeq, sIf, dBin, two, oV, oN, dC, M.bind, Res.bind, M.ret, reso, fIx, M.opt, asB, fGt, fCmp, hc, sSetX, xV, tSetX, fMod, fInt, dFx, xFn, aO, aNil, resA, fToInt, hm, sPutN, fDiv, hm2, sRet, dVar, ownAt, Sl.own, atI, ixN, tSet, tPut, TW.putAt, setAt, Sl.put, sNil, xBin, fAdd, fMul, fLen, scr, hi, fSub, h1, h2, hx, fPow, fGe, hb]
theorem taken {ns : List Int} {i h c m : Int} (hm : 0 < m) (hm2 : m < 1073741824) (hi : 0 ≤ i) : ∃ t i' h' c' out, 0 ≤ t ∧ t < m ∧ 0 ≤ i' ∧ D__law_taken [.io (row ns i h c), .v (.int m)] = .ok (.int t) (.io (row ns i' h' c') :: out) := by
  by_cases hc : 0 < c
  · exact ⟨_, _, _, _, _, Int.emod_nonneg _ (by omega), Int.emod_lt_of_pos _ hm, hi, taken1 hm hm2 hc⟩
  · by_cases hl : (ns.length : Int) < i + 1
    · exact ⟨_, i + 1, _, _, _, Int.emod_nonneg _ (by omega), Int.emod_lt_of_pos _ hm, by omega, taken2 hm hm2 hc hl⟩
    · have hlt : i.toNat < ns.length := by omega
      obtain ⟨out, e⟩ := taken3 (i := i) (h := h) (c := c) (m := m) (x := ns[i.toNat]) (j := i.toNat) hm hm2 hc (by omega) (List.getElem?_eq_getElem hlt)
      exact ⟨_, i + 1, _, _, out, Int.emod_nonneg _ (by omega), Int.emod_lt_of_pos _ hm, by omega, e⟩
theorem pick {ns : List Int} {i h c : Int} {ds : List PyData} (h1 : 1 ≤ ds.length) (h2 : ds.length < 1073741824) (hi : 0 ≤ i) : ∃ (j : Nat) (d : PyData) (i' h' c' : Int) (out : List Sl), ds[j]? = some d ∧ 0 ≤ i' ∧
    D__law_pick [.io (row ns i h c), .v (.list ds)] = .ok d (.io (row ns i' h' c') :: out) := by
  obtain ⟨t, i', h', c', out, t0, t1, hi', e⟩ := taken (ns := ns) (h := h) (c := c) (m := ds.length) (by omega) (by omega) hi
  have hj : t.toNat < ds.length := by omega
  refine ⟨t.toNat, ds[t.toNat], i', h', c', [.v (.list ds)], List.getElem?_eq_getElem hj, hi', ?_⟩
  have hx := List.getElem?_eq_getElem hj
  have t1' : t < (ds.length : Int) := t1
  simp [D__law_pick, fnOf, sRet, dBin, two, oN, oV, M.bind, Res.bind, M.ret, reso, dCall, aIo, aV, aNil, dFx, xFn, aO, resA, fLen, M.opt, Sl.own, nodupB, ioIx, argsSl, e, backSl, Sl.put, fIx, atI, ixN, t0, t1', hx]
end K02

end
section
namespace K02
open PySem PySem.Spec PyProof.Rows L2 TW
/-- the worlds' names -/
def wnames : List Str := ["end", "ends", "stack", "deque", "in", "inout", "relabel", "reverse"]
def lres (f : M PyData) (w : Str) (l : Int) : Option (List PyData × List Sl) := match f [.v (.str w), .v (.int l)] with
  | .ok (.list es) out => some (es, out)
  | _ => none
theorem lres_eq {f : M PyData} {w : Str} {l : Int} {es : List PyData} {out : List Sl} (h : lres f w l = some (es, out)) : f [.v (.str w), .v (.int l)] = .ok (.list es) out := by
  unfold lres at h
  split at h
  · rename_i e
    cases h
    exact e
  · cases h
def msgs (w : Str) (l : Int) : List PyData := match lres D_all_messages w l with
  | some (es, _) => es
  | none => []
def okM (w : Str) (l : Int) : Bool := (match lres D_all_messages w l, lres D__law_messages w l with
  | some (es, _), some (fs, _) => sameDs es fs
  | _, _ => false) && decide (1 ≤ (msgs w l).length) && decide ((msgs w l).length ≤ 20)
/-- what a message is: in the list it is found where it stands; it is like itself, told at once -/
def okX (w : Str) (l : Int) : Bool := (msgs w l).all fun m => SeqAt.shaped m && (match D_is_like 6 [.v m, .v m] with
    | .ok (.bool true) _ => true
    | _ => false) && (msgs w l).all fun m' => match D_is_like 6 [.v m, .v m'] with
    | .ok (.bool _) _ => true
    | _ => false
theorem all_ok : ∀ w ∈ wnames, ∀ l ∈ [(1 : Int), 2, 3], okM w l = true ∧ okX w l = true := by decide +kernel
end K02

end
section
namespace K02
open PySem PySem.Spec PyProof.Rows L2 TW
theorem msgs_all {w : Str} {l : Int} (hw : w ∈ wnames) (hl : l ∈ [(1 : Int), 2, 3]) : (∃ out, D_all_messages [.v (.str w), .v (.int l)] = .ok (.list (msgs w l)) out) ∧ (∃ out, D__law_messages [.v (.str w), .v (.int l)] = .ok (.list (msgs w l)) out) ∧ 1 ≤ (msgs w l).length ∧ (msgs w l).length ≤ 20 := by
  have h := (all_ok w hw l hl).1
  unfold okM at h
  simp only [Bool.and_eq_true, decide_eq_true_eq] at h
  obtain ⟨⟨h1, h2⟩, h3⟩ := h
  cases ha : lres D_all_messages w l with
  | none => rw [ha] at h1; cases h1
  | some p =>
    cases hb : lres D__law_messages w l with
    | none => rw [ha, hb] at h1; cases h1
    | some q =>
      obtain ⟨es, o1⟩ := p
      obtain ⟨fs, o2⟩ := q
      rw [ha, hb] at h1
      have e : es = fs := sameDs_eq _ _ h1
      have em : msgs w l = es := by unfold msgs; rw [ha]
      rw [em] at h2 h3 ⊢
      exact ⟨⟨o1, lres_eq ha⟩, ⟨o2, by rw [e]; exact lres_eq hb⟩, h2, h3⟩
theorem world {ns : List Int} {i h c : Int} (hi : 0 ≤ i) : ∃ (w : Str) (i' h' c' : Int), w ∈ wnames ∧ 0 ≤ i' ∧ ∃ out : List Sl, D__law_world [.io (row ns i h c)] = .ok (.str w) (.io (row ns i' h' c') :: out) := by
  obtain ⟨j, d, i', h', c', out, hd, hi', e⟩ := pick (ns := ns) (h := h) (c := c) (ds := [.str "end", .str "ends", .str "stack", .str "deque", .str "in", .str "inout", .str "relabel", .str "reverse", .str "inout", .str "in", .str "stack"]) (by decide) (by decide) hi
  have hm : d ∈ ([.str "end", .str "ends", .str "stack", .str "deque", .str "in", .str "inout", .str "relabel", .str "reverse", .str "inout", .str "in", .str "stack"] : List PyData) := List.mem_of_getElem? hd
  obtain ⟨w, rfl, hw⟩ : ∃ w, d = .str w ∧ w ∈ wnames := by
    simp only [List.mem_cons, List.not_mem_nil, or_false] at hm
    rcases hm with h | h | h | h | h | h | h | h | h | h | h <;> exact ⟨_, h, by decide⟩
  refine ⟨w, i', h', c', hw, hi', ?_⟩
  simp [D__law_world, fnOf, sSeq, sSetX, xL, lLst, aV, dC, aNil, M.bind, Res.bind, M.ret, aBind, allV, tSetX, tSetL, sRet, dCall, aIo, dFx, xBin, two, oN, oV, reso, Sl.own, fAdd, dFz, M.opt, sizeLine_eq, nodupB, ioIx, argsSl, e, backSl, Sl.put]
end K02

end
section
namespace K02
open PySem PySem.Spec PyProof.Rows L2 TW
theorem number {a lo hi : Int} (h1 : lo ≤ a) (h2 : a ≤ hi) : ∃ out, D_is_number [.v (.int a), .v (.int lo), .v (.int hi)] = .ok (.bool true) out := by
  simp [D_is_number, fnOf, sRet, dAnd, dIsi, dNot, dChain, oN, M.bind, Res.bind, M.ret, M.opt, reso, isB, tyN, asB, fLe, fCmp, h1, h2]
theorem need_world {w : Str} (hw : w ∈ wnames) : ∃ out, D_need_world [.v (.str w)] = .ok .none out := by
  have h : ∀ w ∈ wnames, (match D_need_world [.v (.str w)] with | .ok .none _ => true | _ => false) = true := by decide +kernel
  have q := h w hw
  split at q
  · rename_i e; exact ⟨_, e⟩
  · cases q
theorem need_letters {l : Int} (hl : l ∈ [(1 : Int), 2, 3]) : ∃ out, D_need_letters [.v (.int l)] = .ok .none out := by
  have h : ∀ l ∈ [(1 : Int), 2, 3], (match D_need_letters [.v (.int l)] with | .ok .none _ => true | _ => false) = true := by decide +kernel
  have q := h l hl
  split at q
  · rename_i e; exact ⟨_, e⟩
  · cases q
end K02

end
section
namespace K02
open PySem PySem.Spec PyProof.Rows L2 TW
/-- taken, called where the row is an own list of the caller -/
theorem call_taken {r : List Sl} {k : Nat} {ns : List Int} {i h c m : Int} {de : M PyData} (h1 : r[k]? = some (.l (row ns i h c))) (hd : de r = .ok (.int m) r) (hm : 0 < m) (hm2 : m < 1073741824) (hi : 0 ≤ i) :
    ∃ t i' h' c', 0 ≤ t ∧ t < m ∧ 0 ≤ i' ∧ dCall D__law_taken (aIo k (aV de aNil)) r = .ok (.int t) (r.set k (.l (row ns i' h' c'))) := by
  obtain ⟨t, i', h', c', out, t0, t1, hi', e⟩ := taken (ns := ns) (h := h) (c := c) hm hm2 hi
  refine ⟨t, i', h', c', t0, t1, hi', ?_⟩
  simp [dCall, aIo, aV, aNil, M.bind, Res.bind, M.ret, h1, Sl.own, hd, nodupB, ioIx, argsSl, e, backSl, Sl.put]
theorem call_pick {r : List Sl} {k : Nat} {ns : List Int} {i h c : Int} {de : M PyData} {ds : List PyData} (h1 : r[k]? = some (.l (row ns i h c))) (hd : de r = .ok (.list ds) r) (hl : 1 ≤ ds.length) (hl2 : ds.length < 1073741824) (hi : 0 ≤ i) :
    ∃ (j : Nat) (d : PyData) (i' h' c' : Int), ds[j]? = some d ∧ 0 ≤ i' ∧ dCall D__law_pick (aIo k (aV de aNil)) r = .ok d (r.set k (.l (row ns i' h' c'))) := by
  obtain ⟨j, d, i', h', c', out, hj, hi', e⟩ := pick (ns := ns) (h := h) (c := c) hl hl2 hi
  refine ⟨j, d, i', h', c', hj, hi', ?_⟩
  simp [dCall, aIo, aV, aNil, M.bind, Res.bind, M.ret, h1, Sl.own, hd, nodupB, ioIx, argsSl, e, backSl, Sl.put]
end K02

end
section
namespace K02
open PySem PySem.Spec PyProof.Rows L2 TW
/-- what is compared with: texts, numbers, tuples of such -/
def ilElt (n : Nat) : M PyData := dCall (D_is_like n) (aV (dVar 2) (aV (dVar 3) aNil))
def ilT : Tg := gT (gLen 2 (gsC (gN 2) (gsC (gN 3) gsN)))
def ilIt : M (List PyData) := aBind (aV (dVar 0) (aV (dVar 1) aNil)) iZip
def ilGen (n : Nat) : M PyData := dGen false [2, 3] ilIt ilT tYesD (ilElt n)
theorem is_like_eq (n : Nat) : D_is_like (n + 1) = fnOf 2 4 (sSeq (sIf ((dIsi "tuple" (oN 1)).bind asB) (sSeq (sIf (dtOr (dtNot ((dIsi "tuple" (oN 0)).bind asB)) ((dBin fNe (oV (dFx (xFn fLen (aO (oN 0) aNil)))) (oV (dFx (xFn fLen (aO (oN 1) aNil))))).bind asB)) (sRet (dC (.bool false))) sNil)
  (sRet (ilGen n))) sNil)
  (sSeq (sIf (dtOr ((dIsi "bool" (oN 0)).bind asB) ((dBin fNe (oV (dIsi "str" (oN 0))) (oV (dIsi "str" (oN 1)))).bind asB)) (sRet (dC (.bool false))) sNil)
  (sRet (dBin fEq (oN 0) (oN 1))))) := rfl
def pairT (p : PyData × PyData) : PyData := .tuple [p.1, p.2]
def sameP : PyData → Bool
  | .tuple [x, y] => sameD x y
  | _ => false
theorem same_all : ∀ (xs ys : List PyData), xs.length = ys.length → ((xs.zip ys).map pairT).all sameP = sameDs xs ys
  | [], [], _ => rfl
  | x :: xs, y :: ys, h => by
    have := same_all xs ys (by simpa using h)
    simp only [List.zip_cons_cons, List.map_cons, List.all_cons, this, sameDs]
    rfl
  | [], _ :: _, h => by simp at h
  | _ :: _, [], h => by simp at h
theorem same_len : ∀ (xs ys : List PyData), xs.length ≠ ys.length → sameDs xs ys = false
  | [], [], h => absurd rfl h
  | x :: xs, y :: ys, h => by
    have := same_len xs ys (by simpa using h)
    simp [sameDs, this]
  | [], _ :: _, _ => rfl
  | _ :: _, [], _ => rfl
theorem zipT_mem {xs ys : List PyData} {d : PyData} (h : d ∈ (xs.zip ys).map pairT) : ∃ x ∈ xs, ∃ y ∈ ys, d = .tuple [x, y] := by
  obtain ⟨⟨x, y⟩, h1, rfl⟩ := List.mem_map.mp h
  exact ⟨x, (List.of_mem_zip h1).1, y, (List.of_mem_zip h1).2, rfl⟩
/-- plain data that messages are made of, n deep -/
def isPl : Nat → PyData → Prop
  | 0, _ => False
  | n + 1, .tuple ys => ∀ y ∈ ys, isPl n y
  | _ + 1, .int _ => True
  | _ + 1, .str _ => True
  | _ + 1, _ => False
theorem il_ok (n : Nat) (ih : ∀ a m, isPl n m → SeqAt.shaped a = true → SeqAt.shaped m = true → ∃ out, D_is_like n [.v a, .v m] = .ok (.bool (sameD a m)) out) (xs ys : List PyData) (hl : xs.length = ys.length) (hp : ∀ y ∈ ys, isPl n y) (hx : ∀ x ∈ xs, SeqAt.shaped x = true) (hy : ∀ y ∈ ys, SeqAt.shaped y = true) :
    ∃ r, ilGen n [.v (.tuple xs), .v (.tuple ys), .un, .un] = .ok (.bool (sameDs xs ys)) r := by
  obtain ⟨r', q, y2, y3, h2, h3, rfl⟩ := gen_all (own := [2, 3]) (T := ilT) (tt := tYesD) (elt := ilElt n) (f := sameP) (P := fun r => ∃ y2 y3, nio y2 = true ∧ nio y3 = true ∧ r = [.v (.tuple xs), .v (.tuple ys), y2, y3]) (ds := (xs.zip ys).map pairT) (r := [.v (.tuple xs), .v (.tuple ys), .un, .un]) ⟨.un, .un, rfl, rfl, rfl⟩
    (fun d hd r hr => by
      obtain ⟨y2, y3, h2, h3, rfl⟩ := hr
      obtain ⟨x, hx1, y, hy1, rfl⟩ := zipT_mem hd
      obtain ⟨out, e⟩ := ih x y (hp y hy1) (hx x hx1) (hy y hy1)
      have ee : ilElt n [.v (.tuple xs), .v (.tuple ys), .v x, .v y] = .ok (.bool (sameD x y)) [.v (.tuple xs), .v (.tuple ys), .v x, .v y] := by
        unfold ilElt
        generalize D_is_like n = F at e ⊢
        simp [fnOf, sSeq, sSetX, xV, xL, dCall, aV, aIo, aNil, dVar, M.bind, Res.bind, M.ret, M.opt, reso, nodupB, ioIx, argsSl, backSl, tSetX, lLst, aBind, allV, dC, sizeLine_eq, sFor, iSeq, items, sRet, sIf, dtOr, dtNot, dtAnd, asB, dIsi, dIsi2, isB, tyN, dBin, two, oV, oN, dFx, xFn, aO, resA, fLen, fNe_int, fEq_int, fNe_bool, fEq_bool, fEq_none, fEq_nil, fLe, fGt, fGe, fCmp, dFz, fTuple, sNil, sDrop, dChain, dAnd, dNot, Sl.own, Sl.put, dGen, genB, lLc, lcB, iEnZip, TW.iEnum, gT, gLen, gsC, gsN, sAsg, tAsgG, gN_eq, tSet_eq, tSetL_eq, noIo_eq, wipeR, nio_un, nio_v, nio_l, fInt, fSub, fAdd, xBin, fIx, xSl, pAt, pNo, fSl, dIf, fIs, isNone, unwipe_eq, nio_wp, sh_int, sh_bool, sh_none, eqv_int, eqv_bool, eqv_none, e]
      exact ⟨by simp [noIo_eq, h2, h3], [.v (.tuple xs), .v (.tuple ys), .v x, .v y], [.v (.tuple xs), .v (.tuple ys), .v x, .v y], [.v (.tuple xs), .v (.tuple ys), .v x, .v y], by simp [ilT, gT, gLen, gsC, gsN, gN_eq, wipeR, nio], rfl, ee, .v x, .v y, rfl, rfl, rfl⟩)
  rw [same_all xs ys hl] at q
  have hi : ilIt [.v (.tuple xs), .v (.tuple ys), .un, .un] = .ok ((xs.zip ys).map pairT) [.v (.tuple xs), .v (.tuple ys), .un, .un] := rfl
  have hn : noIo [.v (.tuple xs), .v (.tuple ys), y2, y3] [2, 3] = true := by simp [noIo_eq, h2, h3]
  exact ⟨_, (dGen_ok (stop := false) (own := [2, 3]) (T := ilT) (tt := tYesD) (elt := ilElt n) hi).trans (genB_ok q hn)⟩
theorem leaf_int (a : PyData) (k : Int) (h : SeqAt.shaped a = true) (hb : ∀ b, a ≠ .bool b) (hs : ∀ s, a ≠ .str s) : fEq a (.int k) = some (.bool (sameD a (.int k))) := by
  unfold fEq
  rw [h, sh_int]
  cases a with
  | bool b => exact absurd rfl (hb b)
  | str s => exact absurd rfl (hs s)
  | int i => by_cases e : i = k <;> simp [PyData.eqv, sameD, e]
  | none => rfl
  | list _ => simp [PyData.eqv, sameD]
  | tuple _ => simp [PyData.eqv, sameD]
  | dict _ => simp [PyData.eqv, sameD]
theorem leaf_str (x s : Str) (h : SeqAt.shaped (.str x) = true) (h2 : SeqAt.shaped (.str s) = true) : fEq (.str x) (.str s) = some (.bool (sameD (.str x) (.str s))) := by
  unfold fEq
  rw [h, h2]
  simp [PyData.eqv, sameD]
  by_cases e : x = s <;> simp [e]
theorem like_leaf (n : Nat) (a m : PyData) (hm : isB "tuple" m = false) (d : PyData) (r : List Sl)
    (h : (sSeq (sIf (dtOr ((dIsi "bool" (oN 0)).bind asB) ((dBin fNe (oV (dIsi "str" (oN 0))) (oV (dIsi "str" (oN 1)))).bind asB)) (sRet (dC (.bool false))) sNil) (sRet (dBin fEq (oN 0) (oN 1)))) [.v a, .v m, .un, .un] = .ok (.rt d) r) : D_is_like (n + 1) [.v a, .v m] = .ok d r := by
  rw [is_like_eq]
  have e := isi_ok (T := "tuple") (i := 1) (r := [.v a, .v m, .un, .un]) (d := m) rfl
  rw [hm] at e
  exact fnOf_rt rfl ((sSeq_nx (sIf_no e)).trans h)
theorem like_eq : ∀ (n : Nat) (a m : PyData), isPl n m → SeqAt.shaped a = true → SeqAt.shaped m = true → ∃ out, D_is_like n [.v a, .v m] = .ok (.bool (sameD a m)) out
  | 0, _, _, h, _, _ => h.elim
  | n + 1, a, .int k, _, ha, _ => by
    refine ⟨_, like_leaf n a _ rfl _ [.v a, .v (.int k), .un, .un] ?_⟩
    cases a with
    | bool b => rfl
    | str s => simp [fnOf, sSeq, sSetX, xV, xL, dCall, aV, aIo, aNil, dVar, M.bind, Res.bind, M.ret, M.opt, reso, nodupB, ioIx, argsSl, backSl, tSetX, lLst, aBind, allV, dC, sizeLine_eq, sFor, iSeq, items, sRet, sIf, dtOr, dtNot, dtAnd, asB, dIsi, dIsi2, isB, tyN, dBin, two, oV, oN, dFx, xFn, aO, resA, fLen, fNe_int, fEq_int, fNe_bool, fEq_bool, fEq_none, fEq_nil, fLe, fGt, fGe, fCmp, dFz, fTuple, sNil, sDrop, dChain, dAnd, dNot, Sl.own, Sl.put, dGen, genB, lLc, lcB, iEnZip, TW.iEnum, gT, gLen, gsC, gsN, sAsg, tAsgG, gN_eq, tSet_eq, tSetL_eq, noIo_eq, wipeR, nio_un, nio_v, nio_l, fInt, fSub, fAdd, xBin, fIx, xSl, pAt, pNo, fSl, dIf, fIs, isNone, unwipe_eq, nio_wp, sh_int, sh_bool, sh_none, eqv_int, eqv_bool, eqv_none, sameD]
    | int i => simp [fnOf, sSeq, sSetX, xV, xL, dCall, aV, aIo, aNil, dVar, M.bind, Res.bind, M.ret, M.opt, reso, nodupB, ioIx, argsSl, backSl, tSetX, lLst, aBind, allV, dC, sizeLine_eq, sFor, iSeq, items, sRet, sIf, dtOr, dtNot, dtAnd, asB, dIsi, dIsi2, isB, tyN, dBin, two, oV, oN, dFx, xFn, aO, resA, fLen, fNe_int, fEq_int, fNe_bool, fEq_bool, fEq_none, fEq_nil, fLe, fGt, fGe, fCmp, dFz, fTuple, sNil, sDrop, dChain, dAnd, dNot, Sl.own, Sl.put, dGen, genB, lLc, lcB, iEnZip, TW.iEnum, gT, gLen, gsC, gsN, sAsg, tAsgG, gN_eq, tSet_eq, tSetL_eq, noIo_eq, wipeR, nio_un, nio_v, nio_l, fInt, fSub, fAdd, xBin, fIx, xSl, pAt, pNo, fSl, dIf, fIs, isNone, unwipe_eq, nio_wp, sh_int, sh_bool, sh_none, eqv_int, eqv_bool, eqv_none, sameD]
    | none => simp [fnOf, sSeq, sSetX, xV, xL, dCall, aV, aIo, aNil, dVar, M.bind, Res.bind, M.ret, M.opt, reso, nodupB, ioIx, argsSl, backSl, tSetX, lLst, aBind, allV, dC, sizeLine_eq, sFor, iSeq, items, sRet, sIf, dtOr, dtNot, dtAnd, asB, dIsi, dIsi2, isB, tyN, dBin, two, oV, oN, dFx, xFn, aO, resA, fLen, fNe_int, fEq_int, fNe_bool, fEq_bool, fEq_none, fEq_nil, fLe, fGt, fGe, fCmp, dFz, fTuple, sNil, sDrop, dChain, dAnd, dNot, Sl.own, Sl.put, dGen, genB, lLc, lcB, iEnZip, TW.iEnum, gT, gLen, gsC, gsN, sAsg, tAsgG, gN_eq, tSet_eq, tSetL_eq, noIo_eq, wipeR, nio_un, nio_v, nio_l, fInt, fSub, fAdd, xBin, fIx, xSl, pAt, pNo, fSl, dIf, fIs, isNone, unwipe_eq, nio_wp, sh_int, sh_bool, sh_none, eqv_int, eqv_bool, eqv_none, leaf_int _ _ ha]
    | list _ => simp [fnOf, sSeq, sSetX, xV, xL, dCall, aV, aIo, aNil, dVar, M.bind, Res.bind, M.ret, M.opt, reso, nodupB, ioIx, argsSl, backSl, tSetX, lLst, aBind, allV, dC, sizeLine_eq, sFor, iSeq, items, sRet, sIf, dtOr, dtNot, dtAnd, asB, dIsi, dIsi2, isB, tyN, dBin, two, oV, oN, dFx, xFn, aO, resA, fLen, fNe_int, fEq_int, fNe_bool, fEq_bool, fEq_none, fEq_nil, fLe, fGt, fGe, fCmp, dFz, fTuple, sNil, sDrop, dChain, dAnd, dNot, Sl.own, Sl.put, dGen, genB, lLc, lcB, iEnZip, TW.iEnum, gT, gLen, gsC, gsN, sAsg, tAsgG, gN_eq, tSet_eq, tSetL_eq, noIo_eq, wipeR, nio_un, nio_v, nio_l, fInt, fSub, fAdd, xBin, fIx, xSl, pAt, pNo, fSl, dIf, fIs, isNone, unwipe_eq, nio_wp, sh_int, sh_bool, sh_none, eqv_int, eqv_bool, eqv_none, leaf_int _ _ ha]
    | tuple _ => simp [fnOf, sSeq, sSetX, xV, xL, dCall, aV, aIo, aNil, dVar, M.bind, Res.bind, M.ret, M.opt, reso, nodupB, ioIx, argsSl, backSl, tSetX, lLst, aBind, allV, dC, sizeLine_eq, sFor, iSeq, items, sRet, sIf, dtOr, dtNot, dtAnd, asB, dIsi, dIsi2, isB, tyN, dBin, two, oV, oN, dFx, xFn, aO, resA, fLen, fNe_int, fEq_int, fNe_bool, fEq_bool, fEq_none, fEq_nil, fLe, fGt, fGe, fCmp, dFz, fTuple, sNil, sDrop, dChain, dAnd, dNot, Sl.own, Sl.put, dGen, genB, lLc, lcB, iEnZip, TW.iEnum, gT, gLen, gsC, gsN, sAsg, tAsgG, gN_eq, tSet_eq, tSetL_eq, noIo_eq, wipeR, nio_un, nio_v, nio_l, fInt, fSub, fAdd, xBin, fIx, xSl, pAt, pNo, fSl, dIf, fIs, isNone, unwipe_eq, nio_wp, sh_int, sh_bool, sh_none, eqv_int, eqv_bool, eqv_none, leaf_int _ _ ha]
    | dict _ => simp [SeqAt.shaped, PyData.canLay0] at ha
  | n + 1, a, .str s, _, ha, hm => by
    refine ⟨_, like_leaf n a _ rfl _ [.v a, .v (.str s), .un, .un] ?_⟩
    cases a with
    | str x => simp [fnOf, sSeq, sSetX, xV, xL, dCall, aV, aIo, aNil, dVar, M.bind, Res.bind, M.ret, M.opt, reso, nodupB, ioIx, argsSl, backSl, tSetX, lLst, aBind, allV, dC, sizeLine_eq, sFor, iSeq, items, sRet, sIf, dtOr, dtNot, dtAnd, asB, dIsi, dIsi2, isB, tyN, dBin, two, oV, oN, dFx, xFn, aO, resA, fLen, fNe_int, fEq_int, fNe_bool, fEq_bool, fEq_none, fEq_nil, fLe, fGt, fGe, fCmp, dFz, fTuple, sNil, sDrop, dChain, dAnd, dNot, Sl.own, Sl.put, dGen, genB, lLc, lcB, iEnZip, TW.iEnum, gT, gLen, gsC, gsN, sAsg, tAsgG, gN_eq, tSet_eq, tSetL_eq, noIo_eq, wipeR, nio_un, nio_v, nio_l, fInt, fSub, fAdd, xBin, fIx, xSl, pAt, pNo, fSl, dIf, fIs, isNone, unwipe_eq, nio_wp, sh_int, sh_bool, sh_none, eqv_int, eqv_bool, eqv_none, leaf_str _ _ ha hm]
    | bool b => rfl
    | int i => simp [fnOf, sSeq, sSetX, xV, xL, dCall, aV, aIo, aNil, dVar, M.bind, Res.bind, M.ret, M.opt, reso, nodupB, ioIx, argsSl, backSl, tSetX, lLst, aBind, allV, dC, sizeLine_eq, sFor, iSeq, items, sRet, sIf, dtOr, dtNot, dtAnd, asB, dIsi, dIsi2, isB, tyN, dBin, two, oV, oN, dFx, xFn, aO, resA, fLen, fNe_int, fEq_int, fNe_bool, fEq_bool, fEq_none, fEq_nil, fLe, fGt, fGe, fCmp, dFz, fTuple, sNil, sDrop, dChain, dAnd, dNot, Sl.own, Sl.put, dGen, genB, lLc, lcB, iEnZip, TW.iEnum, gT, gLen, gsC, gsN, sAsg, tAsgG, gN_eq, tSet_eq, tSetL_eq, noIo_eq, wipeR, nio_un, nio_v, nio_l, fInt, fSub, fAdd, xBin, fIx, xSl, pAt, pNo, fSl, dIf, fIs, isNone, unwipe_eq, nio_wp, sh_int, sh_bool, sh_none, eqv_int, eqv_bool, eqv_none, sameD]
    | none => simp [fnOf, sSeq, sSetX, xV, xL, dCall, aV, aIo, aNil, dVar, M.bind, Res.bind, M.ret, M.opt, reso, nodupB, ioIx, argsSl, backSl, tSetX, lLst, aBind, allV, dC, sizeLine_eq, sFor, iSeq, items, sRet, sIf, dtOr, dtNot, dtAnd, asB, dIsi, dIsi2, isB, tyN, dBin, two, oV, oN, dFx, xFn, aO, resA, fLen, fNe_int, fEq_int, fNe_bool, fEq_bool, fEq_none, fEq_nil, fLe, fGt, fGe, fCmp, dFz, fTuple, sNil, sDrop, dChain, dAnd, dNot, Sl.own, Sl.put, dGen, genB, lLc, lcB, iEnZip, TW.iEnum, gT, gLen, gsC, gsN, sAsg, tAsgG, gN_eq, tSet_eq, tSetL_eq, noIo_eq, wipeR, nio_un, nio_v, nio_l, fInt, fSub, fAdd, xBin, fIx, xSl, pAt, pNo, fSl, dIf, fIs, isNone, unwipe_eq, nio_wp, sh_int, sh_bool, sh_none, eqv_int, eqv_bool, eqv_none, sameD]
    | list _ => simp [fnOf, sSeq, sSetX, xV, xL, dCall, aV, aIo, aNil, dVar, M.bind, Res.bind, M.ret, M.opt, reso, nodupB, ioIx, argsSl, backSl, tSetX, lLst, aBind, allV, dC, sizeLine_eq, sFor, iSeq, items, sRet, sIf, dtOr, dtNot, dtAnd, asB, dIsi, dIsi2, isB, tyN, dBin, two, oV, oN, dFx, xFn, aO, resA, fLen, fNe_int, fEq_int, fNe_bool, fEq_bool, fEq_none, fEq_nil, fLe, fGt, fGe, fCmp, dFz, fTuple, sNil, sDrop, dChain, dAnd, dNot, Sl.own, Sl.put, dGen, genB, lLc, lcB, iEnZip, TW.iEnum, gT, gLen, gsC, gsN, sAsg, tAsgG, gN_eq, tSet_eq, tSetL_eq, noIo_eq, wipeR, nio_un, nio_v, nio_l, fInt, fSub, fAdd, xBin, fIx, xSl, pAt, pNo, fSl, dIf, fIs, isNone, unwipe_eq, nio_wp, sh_int, sh_bool, sh_none, eqv_int, eqv_bool, eqv_none, sameD]
    | tuple _ => simp [fnOf, sSeq, sSetX, xV, xL, dCall, aV, aIo, aNil, dVar, M.bind, Res.bind, M.ret, M.opt, reso, nodupB, ioIx, argsSl, backSl, tSetX, lLst, aBind, allV, dC, sizeLine_eq, sFor, iSeq, items, sRet, sIf, dtOr, dtNot, dtAnd, asB, dIsi, dIsi2, isB, tyN, dBin, two, oV, oN, dFx, xFn, aO, resA, fLen, fNe_int, fEq_int, fNe_bool, fEq_bool, fEq_none, fEq_nil, fLe, fGt, fGe, fCmp, dFz, fTuple, sNil, sDrop, dChain, dAnd, dNot, Sl.own, Sl.put, dGen, genB, lLc, lcB, iEnZip, TW.iEnum, gT, gLen, gsC, gsN, sAsg, tAsgG, gN_eq, tSet_eq, tSetL_eq, noIo_eq, wipeR, nio_un, nio_v, nio_l, fInt, fSub, fAdd, xBin, fIx, xSl, pAt, pNo, fSl, dIf, fIs, isNone, unwipe_eq, nio_wp, sh_int, sh_bool, sh_none, eqv_int, eqv_bool, eqv_none, sameD]
    | dict _ => simp [SeqAt.shaped, PyData.canLay0] at ha
  | n + 1, a, .tuple ys, hp, ha, hm => by
    rw [is_like_eq]
    have e := isi_ok (T := "tuple") (i := 1) (r := [.v a, .v (.tuple ys), .un, .un]) (d := .tuple ys) rfl
    have e0 := isi_ok (T := "tuple") (i := 0) (r := [.v a, .v (.tuple ys), .un, .un]) (d := a) rfl
    by_cases ht : ∃ xs, a = .tuple xs
    · obtain ⟨xs, rfl⟩ := ht
      have el : ((dBin fNe (oV (dFx (xFn fLen (aO (oN 0) aNil)))) (oV (dFx (xFn fLen (aO (oN 1) aNil))))).bind asB) [.v (.tuple xs), .v (.tuple ys), .un, .un] = .ok (!decide ((xs.length : Int) = ys.length)) [.v (.tuple xs), .v (.tuple ys), .un, .un] := by simp [fnOf, sSeq, sSetX, xV, xL, dCall, aV, aIo, aNil, dVar, M.bind, Res.bind, M.ret, M.opt, reso, nodupB, ioIx, argsSl, backSl, tSetX, lLst, aBind, allV, dC, sizeLine_eq, sFor, iSeq, items, sRet, sIf, dtOr, dtNot, dtAnd, asB, dIsi, dIsi2, isB, tyN, dBin, two, oV, oN, dFx, xFn, aO, resA, fLen, fNe_int, fEq_int, fNe_bool, fEq_bool, fEq_none, fEq_nil, fLe, fGt, fGe, fCmp, dFz, fTuple, sNil, sDrop, dChain, dAnd, dNot, Sl.own, Sl.put, dGen, genB, lLc, lcB, iEnZip, TW.iEnum, gT, gLen, gsC, gsN, sAsg, tAsgG, gN_eq, tSet_eq, tSetL_eq, noIo_eq, wipeR, nio_un, nio_v, nio_l, fInt, fSub, fAdd, xBin, fIx, xSl, pAt, pNo, fSl, dIf, fIs, isNone, unwipe_eq, nio_wp, sh_int, sh_bool, sh_none, eqv_int, eqv_bool, eqv_none]
      by_cases hl : xs.length = ys.length
      · have hl1 : (xs.length : Int) = ys.length := by omega
        rw [decide_eq_true hl1] at el
        obtain ⟨r, eg⟩ := il_ok n (fun a m => like_eq n a m) xs ys hl hp (sh_parts (.inl ha)) (sh_parts (.inl hm))
        exact ⟨_, fnOf_rt rfl (sSeq_rt ((sIf_t e).trans ((sSeq_nx (sIf_no (or_ff (not_ok e0) el))).trans (sRet_ok eg))))⟩
      · have hl2 : ¬ ((xs.length : Int) = ys.length) := by omega
        rw [decide_eq_false hl2] at el
        rw [show sameD (.tuple xs) (.tuple ys) = false from same_len xs ys hl]
        exact ⟨[.v (.tuple xs), .v (.tuple ys), .un, .un], fnOf_rt rfl (sSeq_rt ((sIf_t e).trans (sSeq_rt ((sIf_t (or_ff (not_ok e0) el)).trans rfl))))⟩
    · have hf : isB "tuple" a = false := by
        cases a with
        | tuple xs => exact absurd ⟨xs, rfl⟩ ht
        | dict _ => simp [SeqAt.shaped, PyData.canLay0] at ha
        | _ => rfl
      have hs : sameD a (.tuple ys) = false := by
        cases a with
        | tuple xs => exact absurd ⟨xs, rfl⟩ ht
        | _ => rfl
      rw [hf] at e0
      rw [hs]
      exact ⟨[.v a, .v (.tuple ys), .un, .un], fnOf_rt rfl (sSeq_rt ((sIf_t e).trans (sSeq_rt ((sIf_t (or_t (not_ok e0))).trans rfl))))⟩
end K02

end
section
namespace K02
open PySem PySem.Spec PyProof.Rows L2 TW
def isPa : Nat → PyData → Prop
  | 0, _ => False
  | n + 1, .tuple ys => ys.length ≤ 1000 ∧ ∀ y ∈ ys, isPa n y
  | n + 1, .list ys => ys.length ≤ 1000 ∧ ∀ y ∈ ys, isPa n y
  | _ + 1, .int _ => True
  | _ + 1, .str _ => True
  | _ + 1, .none => True
  | _ + 1, _ => False
def alTt (n : Nat) : M Bool := dtNot ((dCall (D__law_alike n) (aV (dBin fIx (oN 0) (oN 2)) (aV (dBin fIx (oN 1) (oN 2)) aNil))).bind asB)
def alArg : M (List TW.Arg) := aV (dFx (xFn fLen (aO (oN 1) aNil))) aNil
def alIt : M (List PyData) := aBind alArg TW.iRange1
def alLc (n : Nat) : M (List PyData) := lLc [2] alIt (gN 2) (alTt n) (dVar 2)
theorem alike_eq0 (n : Nat) : D__law_alike (n + 1) = fnOf 2 3 (sSeq (sIf ((dIsi2 "tuple" "list" (oN 1)).bind asB) (sSeq (sIf (dtOr (dtNot ((dIsi2 "tuple" "list" (oN 0)).bind asB)) ((dBin fNe (oV (dIsi "list" (oN 0))) (oV (dIsi "list" (oN 1)))).bind asB)) (sRet (dC (.bool false))) sNil)
  (sSeq (sIf ((dBin fNe (oV (dFx (xFn fLen (aO (oN 0) aNil)))) (oV (dFx (xFn fLen (aO (oN 1) aNil))))).bind asB) (sRet (dC (.bool false))) sNil)
  (sRet (dBin fEq (oV (dFz (alLc n))) (oV (dFz (lLst aNil))))))) sNil)
  (sSeq (sIf (dtOr ((dBin fIs (oN 1) (oV (dC .none))).bind asB) ((dIsi "str" (oN 1)).bind asB)) (sRet (dAnd (dBin fEq (oN 0) (oN 1)) (dBin fEq (oV (dIsi "str" (oN 0))) (oV (dIsi "str" (oN 1)))))) sNil)
  (sRet (dAnd (dIsi "int" (oN 0)) (dAnd (dBin fEq (oV (dIsi "bool" (oN 0))) (oV (dIsi "bool" (oN 1)))) (dBin fEq (oN 0) (oN 1))))))) := rfl
def mk (c : Bool) (xs : List PyData) : PyData := if c then .tuple xs else .list xs
theorem al_arg (c : Bool) (xs ys : List PyData) : alArg [.v (mk c xs), .v (mk c ys), .un] = .ok [.v (.int (ys.length : Nat))] [.v (mk c xs), .v (mk c ys), .un] := by
  cases c <;> simp [mk, alArg, fnOf, sSeq, sSetX, xV, xL, dCall, aV, aIo, aNil, dVar, M.bind, Res.bind, M.ret, M.opt, reso, nodupB, ioIx, argsSl, backSl, tSetX, lLst, aBind, allV, dC, sizeLine_eq, sFor, iSeq, items, sRet, sIf, dtOr, dtNot, dtAnd, asB, dIsi, dIsi2, isB, tyN, dBin, two, oV, oN, dFx, xFn, aO, resA, fLen, fNe_int, fEq_int, fNe_bool, fEq_bool, fEq_none, fEq_nil, fLe, fGt, fGe, fCmp, dFz, fTuple, sNil, sDrop, dChain, dAnd, dNot, Sl.own, Sl.put, dGen, genB, lLc, lcB, iEnZip, TW.iEnum, gT, gLen, gsC, gsN, sAsg, tAsgG, gN_eq, tSet_eq, tSetL_eq, noIo_eq, wipeR, nio_un, nio_v, nio_l, fInt, fSub, fAdd, xBin, fIx, xSl, pAt, pNo, fSl, dIf, fIs, isNone, unwipe_eq, nio_wp, sh_int, sh_bool, sh_none, eqv_int, eqv_bool, eqv_none]
theorem al_it (c : Bool) (xs ys : List PyData) (hl : ys.length ≤ 1000) : alIt [.v (mk c xs), .v (mk c ys), .un] = .ok (rangeD 0 ys.length) [.v (mk c xs), .v (mk c ys), .un] := range1_ok (al_arg c xs ys) (by omega)
theorem al_tt (n s : Nat) (c : Bool) (xs ys : List PyData) (a m : PyData) (b : Bool) (out : List Sl) (h1 : atI xs (s : Nat) = some a) (h2 : atI ys (s : Nat) = some m) (e : D__law_alike n [.v a, .v m] = .ok (.bool b) out) :
    alTt n [.v (mk c xs), .v (mk c ys), .v (.int (s : Nat))] = .ok (!b) [.v (mk c xs), .v (mk c ys), .v (.int (s : Nat))] := by
  unfold alTt
  generalize D__law_alike n = F at e ⊢
  cases c <;> simp [mk, fnOf, sSeq, sSetX, xV, xL, dCall, aV, aIo, aNil, dVar, M.bind, Res.bind, M.ret, M.opt, reso, nodupB, ioIx, argsSl, backSl, tSetX, lLst, aBind, allV, dC, sizeLine_eq, sFor, iSeq, items, sRet, sIf, dtOr, dtNot, dtAnd, asB, dIsi, dIsi2, isB, tyN, dBin, two, oV, oN, dFx, xFn, aO, resA, fLen, fNe_int, fEq_int, fNe_bool, fEq_bool, fEq_none, fEq_nil, fLe, fGt, fGe, fCmp, dFz, fTuple, sNil, sDrop, dChain, dAnd, dNot, Sl.own, Sl.put, dGen, genB, lLc, lcB, iEnZip, TW.iEnum, gT, gLen, gsC, gsN, sAsg, tAsgG, gN_eq, tSet_eq, tSetL_eq, noIo_eq, wipeR, nio_un, nio_v, nio_l, fInt, fSub, fAdd, xBin, fIx, xSl, pAt, pNo, fSl, dIf, fIs, isNone, unwipe_eq, nio_wp, sh_int, sh_bool, sh_none, eqv_int, eqv_bool, eqv_none, h1, h2, e]
theorem atI_nat {α : Type} {xs : List α} {s : Nat} {x : α} (h : xs[s]? = some x) : atI xs (s : Int) = some x := by
  have hl := (List.getElem?_eq_some_iff.mp h).1
  have h2 : (s : Int) < (xs.length : Int) := by omega
  simp [atI, ixN, h2, h]
def gdiff (xs ys : List PyData) : PyData → Bool
  | .int k => !sameD (xs.getD k.toNat .none) (ys.getD k.toNat .none)
  | _ => false
theorem diff_none {xs ys : List PyData} (hl : xs.length = ys.length) : ((rangeD 0 ys.length).filter (gdiff xs ys)).isEmpty = sameDs xs ys := by
  have key : ∀ (xs ys : List PyData), xs.length = ys.length → (sameDs xs ys = true ↔ ∀ i < ys.length, sameD (xs.getD i .none) (ys.getD i .none) = true) := by
    intro xs
    induction xs with
    | nil =>
      intro ys h
      cases ys with
      | nil => simp [sameDs]
      | cons _ _ => simp at h
    | cons x xs ih =>
      intro ys h
      cases ys with
      | nil => simp at h
      | cons y ys =>
        have hh := ih ys (by simpa using h)
        simp only [sameDs, Bool.and_eq_true, hh, List.length_cons]
        constructor
        · rintro ⟨h1, h2⟩ i hi
          cases i with
          | zero => simpa using h1
          | succ i => simpa using h2 i (by omega)
        · intro h2
          exact ⟨by simpa using h2 0 (by omega), fun i hi => by simpa using h2 (i + 1) (by omega)⟩
  have e : ((rangeD 0 ys.length).filter (gdiff xs ys)).isEmpty = true ↔ sameDs xs ys = true := by
    rw [key xs ys hl, List.isEmpty_iff, List.filter_eq_nil_iff]
    constructor
    · intro h i hi
      have := h (.int (0 + (i : Int))) (List.mem_map.mpr ⟨i, List.mem_range.mpr hi, rfl⟩)
      simpa [gdiff] using this
    · intro h d hd
      obtain ⟨i, hi, rfl⟩ := List.mem_map.mp hd
      have := h i (List.mem_range.mp hi)
      simp only [List.getD_eq_getElem?_getD] at this
      simp [gdiff, this]
  cases h1 : ((rangeD 0 ys.length).filter (gdiff xs ys)).isEmpty <;> cases h2 : sameDs xs ys <;> simp_all
theorem al_lc (n : Nat) (ih : ∀ a m, isPa n m → SeqAt.shaped a = true → SeqAt.shaped m = true → ∃ out, D__law_alike n [.v a, .v m] = .ok (.bool (sameD a m)) out) (c : Bool) (xs ys : List PyData) (hl : xs.length = ys.length) (hz : ys.length ≤ 1000) (hp : ∀ y ∈ ys, isPa n y) (hx : ∀ x ∈ xs, SeqAt.shaped x = true) (hy : ∀ y ∈ ys, SeqAt.shaped y = true) :
    ∃ zs r, zs.isEmpty = sameDs xs ys ∧ (∀ z ∈ zs, ∃ k : Int, z = .int k) ∧ alLc n [.v (mk c xs), .v (mk c ys), .un] = .ok zs r := by
  obtain ⟨r', q, y, h2, rfl⟩ := lc_flt (own := [2]) (T := gN 2) (tt := alTt n) (elt := dVar 2) (g := gdiff xs ys) (f := id) (P := fun r => ∃ y, nio y = true ∧ r = [.v (mk c xs), .v (mk c ys), y]) (ds := rangeD 0 ys.length) (acc := []) (r := [.v (mk c xs), .v (mk c ys), .un]) ⟨.un, rfl, rfl⟩
    (fun d hd r hr => by
      obtain ⟨y, h2, rfl⟩ := hr
      obtain ⟨s, hs, rfl⟩ := List.mem_map.mp hd
      have hs := List.mem_range.mp hs
      have hs1 : s < xs.length := by omega
      obtain ⟨out, e⟩ := ih xs[s] ys[s] (hp _ (List.getElem_mem hs)) (hx _ (List.getElem_mem hs1)) (hy _ (List.getElem_mem hs))
      have et := al_tt n s c xs ys _ _ _ _ (atI_nat (List.getElem?_eq_getElem hs1)) (atI_nat (List.getElem?_eq_getElem hs)) e
      have eg : gdiff xs ys (.int (0 + (s : Int))) = !sameD xs[s] ys[s] := by simp [gdiff, hs, hs1]
      refine ⟨by simp [noIo_eq, h2], [.v (mk c xs), .v (mk c ys), .v (.int (s : Nat))], [.v (mk c xs), .v (mk c ys), .v (.int (s : Nat))], by simp [gN_eq, wipeR, nio], by rw [eg]; exact et, ⟨_, rfl, rfl⟩, fun _ => ⟨[.v (mk c xs), .v (mk c ys), .v (.int (s : Nat))], by simp [dVar], _, rfl, rfl⟩⟩)
  have hn : noIo [.v (mk c xs), .v (mk c ys), y] [2] = true := by simp [noIo_eq, h2]
  refine ⟨_, _, ?_, ?_, (lLc_ok (own := [2]) (T := gN 2) (tt := alTt n) (elt := dVar 2) (al_it c xs ys hz)).trans (lcB_ok (sizeLine_le (by rw [rangeD_len]; omega)) q hn)⟩
  · rw [List.nil_append, List.map_id]
    exact diff_none hl
  · intro z hz
    rw [List.nil_append, List.map_id] at hz
    obtain ⟨i, _, rfl⟩ := List.mem_map.mp (List.mem_filter.mp hz).1
    exact ⟨_, rfl⟩
theorem al_nil (r : List Sl) : (dFz (lLst aNil)) r = .ok (.list []) r := by simp [fnOf, sSeq, sSetX, xV, xL, dCall, aV, aIo, aNil, dVar, M.bind, Res.bind, M.ret, M.opt, reso, nodupB, ioIx, argsSl, backSl, tSetX, lLst, aBind, allV, dC, sizeLine_eq, sFor, iSeq, items, sRet, sIf, dtOr, dtNot, dtAnd, asB, dIsi, dIsi2, isB, tyN, dBin, two, oV, oN, dFx, xFn, aO, resA, fLen, fNe_int, fEq_int, fNe_bool, fEq_bool, fEq_none, fEq_nil, fLe, fGt, fGe, fCmp, dFz, fTuple, sNil, sDrop, dChain, dAnd, dNot, Sl.own, Sl.put, dGen, genB, lLc, lcB, iEnZip, TW.iEnum, gT, gLen, gsC, gsN, sAsg, tAsgG, gN_eq, tSet_eq, tSetL_eq, noIo_eq, wipeR, nio_un, nio_v, nio_l, fInt, fSub, fAdd, xBin, fIx, xSl, pAt, pNo, fSl, dIf, fIs, isNone, unwipe_eq, nio_wp, sh_int, sh_bool, sh_none, eqv_int, eqv_bool, eqv_none]
theorem al_cont (n : Nat) (ih : ∀ a m, isPa n m → SeqAt.shaped a = true → SeqAt.shaped m = true → ∃ out, D__law_alike n [.v a, .v m] = .ok (.bool (sameD a m)) out) (c : Bool) (xs ys : List PyData) (hz : ys.length ≤ 1000) (hp : ∀ y ∈ ys, isPa n y) (hx : ∀ x ∈ xs, SeqAt.shaped x = true) (hy : ∀ y ∈ ys, SeqAt.shaped y = true) :
    ∃ out, D__law_alike (n + 1) [.v (mk c xs), .v (mk c ys)] = .ok (.bool (sameDs xs ys)) out := by
  rw [alike_eq0]
  have e1 : ((dIsi2 "tuple" "list" (oN 1)).bind asB) [.v (mk c xs), .v (mk c ys), .un] = .ok true [.v (mk c xs), .v (mk c ys), .un] := by cases c <;> simp [mk, fnOf, sSeq, sSetX, xV, xL, dCall, aV, aIo, aNil, dVar, M.bind, Res.bind, M.ret, M.opt, reso, nodupB, ioIx, argsSl, backSl, tSetX, lLst, aBind, allV, dC, sizeLine_eq, sFor, iSeq, items, sRet, sIf, dtOr, dtNot, dtAnd, asB, dIsi, dIsi2, isB, tyN, dBin, two, oV, oN, dFx, xFn, aO, resA, fLen, fNe_int, fEq_int, fNe_bool, fEq_bool, fEq_none, fEq_nil, fLe, fGt, fGe, fCmp, dFz, fTuple, sNil, sDrop, dChain, dAnd, dNot, Sl.own, Sl.put, dGen, genB, lLc, lcB, iEnZip, TW.iEnum, gT, gLen, gsC, gsN, sAsg, tAsgG, gN_eq, tSet_eq, tSetL_eq, noIo_eq, wipeR, nio_un, nio_v, nio_l, fInt, fSub, fAdd, xBin, fIx, xSl, pAt, pNo, fSl, dIf, fIs, isNone, unwipe_eq, nio_wp, sh_int, sh_bool, sh_none, eqv_int, eqv_bool, eqv_none]
  have e2 : (dtOr (dtNot ((dIsi2 "tuple" "list" (oN 0)).bind asB)) ((dBin fNe (oV (dIsi "list" (oN 0))) (oV (dIsi "list" (oN 1)))).bind asB)) [.v (mk c xs), .v (mk c ys), .un] = .ok false [.v (mk c xs), .v (mk c ys), .un] := by cases c <;> simp [mk, fnOf, sSeq, sSetX, xV, xL, dCall, aV, aIo, aNil, dVar, M.bind, Res.bind, M.ret, M.opt, reso, nodupB, ioIx, argsSl, backSl, tSetX, lLst, aBind, allV, dC, sizeLine_eq, sFor, iSeq, items, sRet, sIf, dtOr, dtNot, dtAnd, asB, dIsi, dIsi2, isB, tyN, dBin, two, oV, oN, dFx, xFn, aO, resA, fLen, fNe_int, fEq_int, fNe_bool, fEq_bool, fEq_none, fEq_nil, fLe, fGt, fGe, fCmp, dFz, fTuple, sNil, sDrop, dChain, dAnd, dNot, Sl.own, Sl.put, dGen, genB, lLc, lcB, iEnZip, TW.iEnum, gT, gLen, gsC, gsN, sAsg, tAsgG, gN_eq, tSet_eq, tSetL_eq, noIo_eq, wipeR, nio_un, nio_v, nio_l, fInt, fSub, fAdd, xBin, fIx, xSl, pAt, pNo, fSl, dIf, fIs, isNone, unwipe_eq, nio_wp, sh_int, sh_bool, sh_none, eqv_int, eqv_bool, eqv_none]
  have e3 : ((dBin fNe (oV (dFx (xFn fLen (aO (oN 0) aNil)))) (oV (dFx (xFn fLen (aO (oN 1) aNil))))).bind asB) [.v (mk c xs), .v (mk c ys), .un] = .ok (!decide ((xs.length : Int) = ys.length)) [.v (mk c xs), .v (mk c ys), .un] := by cases c <;> simp [mk, fnOf, sSeq, sSetX, xV, xL, dCall, aV, aIo, aNil, dVar, M.bind, Res.bind, M.ret, M.opt, reso, nodupB, ioIx, argsSl, backSl, tSetX, lLst, aBind, allV, dC, sizeLine_eq, sFor, iSeq, items, sRet, sIf, dtOr, dtNot, dtAnd, asB, dIsi, dIsi2, isB, tyN, dBin, two, oV, oN, dFx, xFn, aO, resA, fLen, fNe_int, fEq_int, fNe_bool, fEq_bool, fEq_none, fEq_nil, fLe, fGt, fGe, fCmp, dFz, fTuple, sNil, sDrop, dChain, dAnd, dNot, Sl.own, Sl.put, dGen, genB, lLc, lcB, iEnZip, TW.iEnum, gT, gLen, gsC, gsN, sAsg, tAsgG, gN_eq, tSet_eq, tSetL_eq, noIo_eq, wipeR, nio_un, nio_v, nio_l, fInt, fSub, fAdd, xBin, fIx, xSl, pAt, pNo, fSl, dIf, fIs, isNone, unwipe_eq, nio_wp, sh_int, sh_bool, sh_none, eqv_int, eqv_bool, eqv_none]
  by_cases hl : xs.length = ys.length
  · rw [decide_eq_true (by omega : (xs.length : Int) = ys.length)] at e3
    obtain ⟨zs, r, z1, z2, z3⟩ := al_lc n ih c xs ys hl hz hp hx hy
    refine ⟨_, fnOf_rt rfl (sSeq_rt ((sIf_t e1).trans ((sSeq_nx (sIf_no e2)).trans ((sSeq_nx (sIf_no e3)).trans (sRet_ok (dBin_oV (dFz_ok z3) (al_nil r) ?_))))))⟩
    rw [fEq_emp z2, z1]
  · rw [decide_eq_false (by omega : ¬ (xs.length : Int) = ys.length)] at e3
    rw [same_len xs ys hl]
    exact ⟨[.v (mk c xs), .v (mk c ys), .un], fnOf_rt rfl (sSeq_rt ((sIf_t e1).trans ((sSeq_nx (sIf_no e2)).trans (sSeq_rt ((sIf_t e3).trans rfl)))))⟩
theorem al_other (n : Nat) (c : Bool) (a : PyData) (ys : List PyData) (ha : SeqAt.shaped a = true) (h : ∀ xs, a ≠ mk c xs) : ∃ out, D__law_alike (n + 1) [.v a, .v (mk c ys)] = .ok (.bool false) out := by
  rw [alike_eq0]
  have e1 : ((dIsi2 "tuple" "list" (oN 1)).bind asB) [.v a, .v (mk c ys), .un] = .ok true [.v a, .v (mk c ys), .un] := by cases c <;> simp [mk, fnOf, sSeq, sSetX, xV, xL, dCall, aV, aIo, aNil, dVar, M.bind, Res.bind, M.ret, M.opt, reso, nodupB, ioIx, argsSl, backSl, tSetX, lLst, aBind, allV, dC, sizeLine_eq, sFor, iSeq, items, sRet, sIf, dtOr, dtNot, dtAnd, asB, dIsi, dIsi2, isB, tyN, dBin, two, oV, oN, dFx, xFn, aO, resA, fLen, fNe_int, fEq_int, fNe_bool, fEq_bool, fEq_none, fEq_nil, fLe, fGt, fGe, fCmp, dFz, fTuple, sNil, sDrop, dChain, dAnd, dNot, Sl.own, Sl.put, dGen, genB, lLc, lcB, iEnZip, TW.iEnum, gT, gLen, gsC, gsN, sAsg, tAsgG, gN_eq, tSet_eq, tSetL_eq, noIo_eq, wipeR, nio_un, nio_v, nio_l, fInt, fSub, fAdd, xBin, fIx, xSl, pAt, pNo, fSl, dIf, fIs, isNone, unwipe_eq, nio_wp, sh_int, sh_bool, sh_none, eqv_int, eqv_bool, eqv_none]
  have e2 : (dtOr (dtNot ((dIsi2 "tuple" "list" (oN 0)).bind asB)) ((dBin fNe (oV (dIsi "list" (oN 0))) (oV (dIsi "list" (oN 1)))).bind asB)) [.v a, .v (mk c ys), .un] = .ok true [.v a, .v (mk c ys), .un] := by
    cases a with
    | tuple xs =>
      cases c with
      | true => exact absurd rfl (h xs)
      | false => simp [mk, fnOf, sSeq, sSetX, xV, xL, dCall, aV, aIo, aNil, dVar, M.bind, Res.bind, M.ret, M.opt, reso, nodupB, ioIx, argsSl, backSl, tSetX, lLst, aBind, allV, dC, sizeLine_eq, sFor, iSeq, items, sRet, sIf, dtOr, dtNot, dtAnd, asB, dIsi, dIsi2, isB, tyN, dBin, two, oV, oN, dFx, xFn, aO, resA, fLen, fNe_int, fEq_int, fNe_bool, fEq_bool, fEq_none, fEq_nil, fLe, fGt, fGe, fCmp, dFz, fTuple, sNil, sDrop, dChain, dAnd, dNot, Sl.own, Sl.put, dGen, genB, lLc, lcB, iEnZip, TW.iEnum, gT, gLen, gsC, gsN, sAsg, tAsgG, gN_eq, tSet_eq, tSetL_eq, noIo_eq, wipeR, nio_un, nio_v, nio_l, fInt, fSub, fAdd, xBin, fIx, xSl, pAt, pNo, fSl, dIf, fIs, isNone, unwipe_eq, nio_wp, sh_int, sh_bool, sh_none, eqv_int, eqv_bool, eqv_none]
    | list xs =>
      cases c with
      | false => exact absurd rfl (h xs)
      | true => simp [mk, fnOf, sSeq, sSetX, xV, xL, dCall, aV, aIo, aNil, dVar, M.bind, Res.bind, M.ret, M.opt, reso, nodupB, ioIx, argsSl, backSl, tSetX, lLst, aBind, allV, dC, sizeLine_eq, sFor, iSeq, items, sRet, sIf, dtOr, dtNot, dtAnd, asB, dIsi, dIsi2, isB, tyN, dBin, two, oV, oN, dFx, xFn, aO, resA, fLen, fNe_int, fEq_int, fNe_bool, fEq_bool, fEq_none, fEq_nil, fLe, fGt, fGe, fCmp, dFz, fTuple, sNil, sDrop, dChain, dAnd, dNot, Sl.own, Sl.put, dGen, genB, lLc, lcB, iEnZip, TW.iEnum, gT, gLen, gsC, gsN, sAsg, tAsgG, gN_eq, tSet_eq, tSetL_eq, noIo_eq, wipeR, nio_un, nio_v, nio_l, fInt, fSub, fAdd, xBin, fIx, xSl, pAt, pNo, fSl, dIf, fIs, isNone, unwipe_eq, nio_wp, sh_int, sh_bool, sh_none, eqv_int, eqv_bool, eqv_none]
    | dict _ => simp [SeqAt.shaped, PyData.canLay0] at ha
    | none => cases c <;> simp [mk, fnOf, sSeq, sSetX, xV, xL, dCall, aV, aIo, aNil, dVar, M.bind, Res.bind, M.ret, M.opt, reso, nodupB, ioIx, argsSl, backSl, tSetX, lLst, aBind, allV, dC, sizeLine_eq, sFor, iSeq, items, sRet, sIf, dtOr, dtNot, dtAnd, asB, dIsi, dIsi2, isB, tyN, dBin, two, oV, oN, dFx, xFn, aO, resA, fLen, fNe_int, fEq_int, fNe_bool, fEq_bool, fEq_none, fEq_nil, fLe, fGt, fGe, fCmp, dFz, fTuple, sNil, sDrop, dChain, dAnd, dNot, Sl.own, Sl.put, dGen, genB, lLc, lcB, iEnZip, TW.iEnum, gT, gLen, gsC, gsN, sAsg, tAsgG, gN_eq, tSet_eq, tSetL_eq, noIo_eq, wipeR, nio_un, nio_v, nio_l, fInt, fSub, fAdd, xBin, fIx, xSl, pAt, pNo, fSl, dIf, fIs, isNone, unwipe_eq, nio_wp, sh_int, sh_bool, sh_none, eqv_int, eqv_bool, eqv_none]
    | bool _ => cases c <;> simp [mk, fnOf, sSeq, sSetX, xV, xL, dCall, aV, aIo, aNil, dVar, M.bind, Res.bind, M.ret, M.opt, reso, nodupB, ioIx, argsSl, backSl, tSetX, lLst, aBind, allV, dC, sizeLine_eq, sFor, iSeq, items, sRet, sIf, dtOr, dtNot, dtAnd, asB, dIsi, dIsi2, isB, tyN, dBin, two, oV, oN, dFx, xFn, aO, resA, fLen, fNe_int, fEq_int, fNe_bool, fEq_bool, fEq_none, fEq_nil, fLe, fGt, fGe, fCmp, dFz, fTuple, sNil, sDrop, dChain, dAnd, dNot, Sl.own, Sl.put, dGen, genB, lLc, lcB, iEnZip, TW.iEnum, gT, gLen, gsC, gsN, sAsg, tAsgG, gN_eq, tSet_eq, tSetL_eq, noIo_eq, wipeR, nio_un, nio_v, nio_l, fInt, fSub, fAdd, xBin, fIx, xSl, pAt, pNo, fSl, dIf, fIs, isNone, unwipe_eq, nio_wp, sh_int, sh_bool, sh_none, eqv_int, eqv_bool, eqv_none]
    | int _ => cases c <;> simp [mk, fnOf, sSeq, sSetX, xV, xL, dCall, aV, aIo, aNil, dVar, M.bind, Res.bind, M.ret, M.opt, reso, nodupB, ioIx, argsSl, backSl, tSetX, lLst, aBind, allV, dC, sizeLine_eq, sFor, iSeq, items, sRet, sIf, dtOr, dtNot, dtAnd, asB, dIsi, dIsi2, isB, tyN, dBin, two, oV, oN, dFx, xFn, aO, resA, fLen, fNe_int, fEq_int, fNe_bool, fEq_bool, fEq_none, fEq_nil, fLe, fGt, fGe, fCmp, dFz, fTuple, sNil, sDrop, dChain, dAnd, dNot, Sl.own, Sl.put, dGen, genB, lLc, lcB, iEnZip, TW.iEnum, gT, gLen, gsC, gsN, sAsg, tAsgG, gN_eq, tSet_eq, tSetL_eq, noIo_eq, wipeR, nio_un, nio_v, nio_l, fInt, fSub, fAdd, xBin, fIx, xSl, pAt, pNo, fSl, dIf, fIs, isNone, unwipe_eq, nio_wp, sh_int, sh_bool, sh_none, eqv_int, eqv_bool, eqv_none]
    | str _ => cases c <;> simp [mk, fnOf, sSeq, sSetX, xV, xL, dCall, aV, aIo, aNil, dVar, M.bind, Res.bind, M.ret, M.opt, reso, nodupB, ioIx, argsSl, backSl, tSetX, lLst, aBind, allV, dC, sizeLine_eq, sFor, iSeq, items, sRet, sIf, dtOr, dtNot, dtAnd, asB, dIsi, dIsi2, isB, tyN, dBin, two, oV, oN, dFx, xFn, aO, resA, fLen, fNe_int, fEq_int, fNe_bool, fEq_bool, fEq_none, fEq_nil, fLe, fGt, fGe, fCmp, dFz, fTuple, sNil, sDrop, dChain, dAnd, dNot, Sl.own, Sl.put, dGen, genB, lLc, lcB, iEnZip, TW.iEnum, gT, gLen, gsC, gsN, sAsg, tAsgG, gN_eq, tSet_eq, tSetL_eq, noIo_eq, wipeR, nio_un, nio_v, nio_l, fInt, fSub, fAdd, xBin, fIx, xSl, pAt, pNo, fSl, dIf, fIs, isNone, unwipe_eq, nio_wp, sh_int, sh_bool, sh_none, eqv_int, eqv_bool, eqv_none]
  exact ⟨[.v a, .v (mk c ys), .un], fnOf_rt rfl (sSeq_rt ((sIf_t e1).trans (sSeq_rt ((sIf_t e2).trans rfl))))⟩
theorem al_leaf (n : Nat) (a m : PyData) (hm : isB "tuple" m = false) (hm2 : isB "list" m = false) (d : PyData) (r : List Sl)
    (h : (sSeq (sIf (dtOr ((dBin fIs (oN 1) (oV (dC .none))).bind asB) ((dIsi "str" (oN 1)).bind asB)) (sRet (dAnd (dBin fEq (oN 0) (oN 1)) (dBin fEq (oV (dIsi "str" (oN 0))) (oV (dIsi "str" (oN 1)))))) sNil)
      (sRet (dAnd (dIsi "int" (oN 0)) (dAnd (dBin fEq (oV (dIsi "bool" (oN 0))) (oV (dIsi "bool" (oN 1)))) (dBin fEq (oN 0) (oN 1)))))) [.v a, .v m, .un] = .ok (.rt d) r) : D__law_alike (n + 1) [.v a, .v m] = .ok d r := by
  rw [alike_eq0]
  have e : ((dIsi2 "tuple" "list" (oN 1)).bind asB) [.v a, .v m, .un] = .ok false [.v a, .v m, .un] := by
    simp only [dIsi2, oN, M.bind, Res.bind, List.getElem?_cons_succ, List.getElem?_cons_zero, reso, hm, hm2, asB, M.ret]
    rfl
  exact fnOf_rt rfl ((sSeq_nx (sIf_no e)).trans h)
theorem fEq_no (a : PyData) (ha : SeqAt.shaped a = true) : fEq a .none = some (.bool (sameD a .none)) := by
  unfold fEq
  rw [ha, sh_none]
  cases a <;> simp [PyData.eqv, sameD]
theorem fEq_st (a : PyData) (s : Str) (ha : SeqAt.shaped a = true) (hs : SeqAt.shaped (.str s) = true) : fEq a (.str s) = some (.bool (sameD a (.str s))) := by
  cases a with
  | str x => exact leaf_str x s ha hs
  | _ =>
    unfold fEq
    rw [ha, hs]
    simp [PyData.eqv, sameD]
theorem alike_all : ∀ (n : Nat) (a m : PyData), isPa n m → SeqAt.shaped a = true → SeqAt.shaped m = true → ∃ out, D__law_alike n [.v a, .v m] = .ok (.bool (sameD a m)) out
  | 0, _, _, h, _, _ => h.elim
  | n + 1, a, .tuple ys, hp, ha, hm => by
    by_cases h : ∃ xs, a = .tuple xs
    · obtain ⟨xs, rfl⟩ := h
      exact al_cont n (fun a m => alike_all n a m) true xs ys hp.1 hp.2 (sh_parts (.inl ha)) (sh_parts (.inl hm))
    · have e : sameD a (.tuple ys) = false := by
        cases a with
        | tuple xs => exact absurd ⟨xs, rfl⟩ h
        | _ => rfl
      rw [e]
      exact al_other n true a ys ha fun xs e => h ⟨xs, e⟩
  | n + 1, a, .list ys, hp, ha, hm => by
    by_cases h : ∃ xs, a = .list xs
    · obtain ⟨xs, rfl⟩ := h
      exact al_cont n (fun a m => alike_all n a m) false xs ys hp.1 hp.2 (sh_parts (.inr ha)) (sh_parts (.inr hm))
    · have e : sameD a (.list ys) = false := by
        cases a with
        | list xs => exact absurd ⟨xs, rfl⟩ h
        | _ => rfl
      rw [e]
      exact al_other n false a ys ha fun xs e => h ⟨xs, e⟩
  | n + 1, a, .none, _, ha, hm => by
    refine ⟨[.v a, .v .none, .un], al_leaf n a _ rfl rfl _ _ ?_⟩
    have e := fEq_no a ha
    cases a with
    | dict _ => simp [SeqAt.shaped, PyData.canLay0] at ha
    | _ => simp [fnOf, sSeq, sSetX, xV, xL, dCall, aV, aIo, aNil, dVar, M.bind, Res.bind, M.ret, M.opt, reso, nodupB, ioIx, argsSl, backSl, tSetX, lLst, aBind, allV, dC, sizeLine_eq, sFor, iSeq, items, sRet, sIf, dtOr, dtNot, dtAnd, asB, dIsi, dIsi2, isB, tyN, dBin, two, oV, oN, dFx, xFn, aO, resA, fLen, fNe_int, fEq_int, fNe_bool, fEq_bool, fEq_none, fEq_nil, fLe, fGt, fGe, fCmp, dFz, fTuple, sNil, sDrop, dChain, dAnd, dNot, Sl.own, Sl.put, dGen, genB, lLc, lcB, iEnZip, TW.iEnum, gT, gLen, gsC, gsN, sAsg, tAsgG, gN_eq, tSet_eq, tSetL_eq, noIo_eq, wipeR, nio_un, nio_v, nio_l, fInt, fSub, fAdd, xBin, fIx, xSl, pAt, pNo, fSl, dIf, fIs, isNone, unwipe_eq, nio_wp, sh_int, sh_bool, sh_none, eqv_int, eqv_bool, eqv_none, e, sameD]
  | n + 1, a, .str s, _, ha, hm => by
    refine ⟨[.v a, .v (.str s), .un], al_leaf n a _ rfl rfl _ _ ?_⟩
    have e := fEq_st a s ha hm
    cases a with
    | dict _ => simp [SeqAt.shaped, PyData.canLay0] at ha
    | str x =>
      by_cases hx : x = s
      · subst hx
        simp [fnOf, sSeq, sSetX, xV, xL, dCall, aV, aIo, aNil, dVar, M.bind, Res.bind, M.ret, M.opt, reso, nodupB, ioIx, argsSl, backSl, tSetX, lLst, aBind, allV, dC, sizeLine_eq, sFor, iSeq, items, sRet, sIf, dtOr, dtNot, dtAnd, asB, dIsi, dIsi2, isB, tyN, dBin, two, oV, oN, dFx, xFn, aO, resA, fLen, fNe_int, fEq_int, fNe_bool, fEq_bool, fEq_none, fEq_nil, fLe, fGt, fGe, fCmp, dFz, fTuple, sNil, sDrop, dChain, dAnd, dNot, Sl.own, Sl.put, dGen, genB, lLc, lcB, iEnZip, TW.iEnum, gT, gLen, gsC, gsN, sAsg, tAsgG, gN_eq, tSet_eq, tSetL_eq, noIo_eq, wipeR, nio_un, nio_v, nio_l, fInt, fSub, fAdd, xBin, fIx, xSl, pAt, pNo, fSl, dIf, fIs, isNone, unwipe_eq, nio_wp, sh_int, sh_bool, sh_none, eqv_int, eqv_bool, eqv_none, e, sameD]
      · simp [fnOf, sSeq, sSetX, xV, xL, dCall, aV, aIo, aNil, dVar, M.bind, Res.bind, M.ret, M.opt, reso, nodupB, ioIx, argsSl, backSl, tSetX, lLst, aBind, allV, dC, sizeLine_eq, sFor, iSeq, items, sRet, sIf, dtOr, dtNot, dtAnd, asB, dIsi, dIsi2, isB, tyN, dBin, two, oV, oN, dFx, xFn, aO, resA, fLen, fNe_int, fEq_int, fNe_bool, fEq_bool, fEq_none, fEq_nil, fLe, fGt, fGe, fCmp, dFz, fTuple, sNil, sDrop, dChain, dAnd, dNot, Sl.own, Sl.put, dGen, genB, lLc, lcB, iEnZip, TW.iEnum, gT, gLen, gsC, gsN, sAsg, tAsgG, gN_eq, tSet_eq, tSetL_eq, noIo_eq, wipeR, nio_un, nio_v, nio_l, fInt, fSub, fAdd, xBin, fIx, xSl, pAt, pNo, fSl, dIf, fIs, isNone, unwipe_eq, nio_wp, sh_int, sh_bool, sh_none, eqv_int, eqv_bool, eqv_none, e, sameD, hx]
    | _ => simp [fnOf, sSeq, sSetX, xV, xL, dCall, aV, aIo, aNil, dVar, M.bind, Res.bind, M.ret, M.opt, reso, nodupB, ioIx, argsSl, backSl, tSetX, lLst, aBind, allV, dC, sizeLine_eq, sFor, iSeq, items, sRet, sIf, dtOr, dtNot, dtAnd, asB, dIsi, dIsi2, isB, tyN, dBin, two, oV, oN, dFx, xFn, aO, resA, fLen, fNe_int, fEq_int, fNe_bool, fEq_bool, fEq_none, fEq_nil, fLe, fGt, fGe, fCmp, dFz, fTuple, sNil, sDrop, dChain, dAnd, dNot, Sl.own, Sl.put, dGen, genB, lLc, lcB, iEnZip, TW.iEnum, gT, gLen, gsC, gsN, sAsg, tAsgG, gN_eq, tSet_eq, tSetL_eq, noIo_eq, wipeR, nio_un, nio_v, nio_l, fInt, fSub, fAdd, xBin, fIx, xSl, pAt, pNo, fSl, dIf, fIs, isNone, unwipe_eq, nio_wp, sh_int, sh_bool, sh_none, eqv_int, eqv_bool, eqv_none, e, sameD]
  | n + 1, a, .int k, _, ha, hm => by
    refine ⟨[.v a, .v (.int k), .un], al_leaf n a _ rfl rfl _ _ ?_⟩
    cases a with
    | dict _ => simp [SeqAt.shaped, PyData.canLay0] at ha
    | int i => simp [fnOf, sSeq, sSetX, xV, xL, dCall, aV, aIo, aNil, dVar, M.bind, Res.bind, M.ret, M.opt, reso, nodupB, ioIx, argsSl, backSl, tSetX, lLst, aBind, allV, dC, sizeLine_eq, sFor, iSeq, items, sRet, sIf, dtOr, dtNot, dtAnd, asB, dIsi, dIsi2, isB, tyN, dBin, two, oV, oN, dFx, xFn, aO, resA, fLen, fNe_int, fEq_int, fNe_bool, fEq_bool, fEq_none, fEq_nil, fLe, fGt, fGe, fCmp, dFz, fTuple, sNil, sDrop, dChain, dAnd, dNot, Sl.own, Sl.put, dGen, genB, lLc, lcB, iEnZip, TW.iEnum, gT, gLen, gsC, gsN, sAsg, tAsgG, gN_eq, tSet_eq, tSetL_eq, noIo_eq, wipeR, nio_un, nio_v, nio_l, fInt, fSub, fAdd, xBin, fIx, xSl, pAt, pNo, fSl, dIf, fIs, isNone, unwipe_eq, nio_wp, sh_int, sh_bool, sh_none, eqv_int, eqv_bool, eqv_none, sameD]
    | _ => simp [fnOf, sSeq, sSetX, xV, xL, dCall, aV, aIo, aNil, dVar, M.bind, Res.bind, M.ret, M.opt, reso, nodupB, ioIx, argsSl, backSl, tSetX, lLst, aBind, allV, dC, sizeLine_eq, sFor, iSeq, items, sRet, sIf, dtOr, dtNot, dtAnd, asB, dIsi, dIsi2, isB, tyN, dBin, two, oV, oN, dFx, xFn, aO, resA, fLen, fNe_int, fEq_int, fNe_bool, fEq_bool, fEq_none, fEq_nil, fLe, fGt, fGe, fCmp, dFz, fTuple, sNil, sDrop, dChain, dAnd, dNot, Sl.own, Sl.put, dGen, genB, lLc, lcB, iEnZip, TW.iEnum, gT, gLen, gsC, gsN, sAsg, tAsgG, gN_eq, tSet_eq, tSetL_eq, noIo_eq, wipeR, nio_un, nio_v, nio_l, fInt, fSub, fAdd, xBin, fIx, xSl, pAt, pNo, fSl, dIf, fIs, isNone, unwipe_eq, nio_wp, sh_int, sh_bool, sh_none, eqv_int, eqv_bool, eqv_none, sameD]
  | n + 1, _, .bool _, h, _, _ => h.elim
  | n + 1, _, .dict _, h, _, _ => h.elim
end K02

end
section
namespace K02
open PySem PySem.Spec PyProof.Rows L2 TW
def nats (xs : List Nat) : List PyData := xs.map fun s => .int (s : Nat)
/-- a message -/
inductive Ms where
  | one (k : Str) (c : Nat)
  | perm (ps : List Nat)
  | turn
def Ms.d : Ms → PyData
  | .one k c => .tuple [.str k, .int (c : Nat)]
  | .perm ps => .tuple [.str "turn", .tuple (nats ps)]
  | .turn => .tuple [.str "turn"]
def toN : List PyData → Option (List Nat)
  | [] => some []
  | .int i :: r => if 0 ≤ i then (toN r).map (i.toNat :: ·) else none
  | _ => none
def Ms.of : PyData → Option Ms
  | .tuple [.str k, .int c] => if 0 ≤ c then some (.one k c.toNat) else none
  | .tuple [.str k, .tuple ps] => (toN ps).map .perm
  | .tuple [.str k] => some .turn
  | _ => none
def hid (w : Str) : Bool := decide (w = "in") || decide (w = "inout")
def kk : List Str := ["put", "front", "chop", "behead", "take"]
def kk6 : List Str := ["put", "front", "chop", "behead", "take", "turn"]
def msB (w : Str) (l : Nat) : Ms → Bool
  | .one k c => kk.contains k && decide (c < l) && (if hid w then decide (k = "put") || decide (k = "take") else !decide (k = "take"))
  | .perm ps => decide (w = "relabel") && decide (ps.length = l) && ps.all fun p => decide (p < l)
  | .turn => decide (w = "reverse")
def parse : List PyData → Option (List Ms)
  | [] => some []
  | d :: r => match Ms.of d, parse r with
    | some x, some xs => some (x :: xs)
    | _, _ => none
def okP (w : Str) (l : Nat) : Bool := match parse (msgs w (l : Nat)) with
  | some X => sameDs (X.map Ms.d) (msgs w (l : Nat)) && X.all (msB w l)
  | none => false
theorem all_okP : ∀ w ∈ wnames, ∀ l ∈ [1, 2, 3], okP w l = true := by decide +kernel
theorem msgs_X {w : Str} {l : Nat} (hw : w ∈ wnames) (hl : l ∈ [1, 2, 3]) : ∃ X : List Ms, msgs w (l : Nat) = X.map Ms.d ∧ ∀ x ∈ X, msB w l x = true := by
  have h := all_okP w hw l hl
  unfold okP at h
  split at h
  · rename_i X _
    rw [Bool.and_eq_true] at h
    exact ⟨X, (sameDs_eq _ _ h.1).symm, List.all_eq_true.mp h.2⟩
  · cases h
def isO : Option PyData → Bool → Bool
  | some (.bool c), b => c == b
  | _, _ => false
theorem isO_eq {o : Option PyData} {b : Bool} (h : isO o b = true) : o = some (.bool b) := by
  unfold isO at h
  split at h
  · simp at h; rw [h]
  · cases h
theorem hidL {w : Str} (hw : w ∈ wnames) : fIn false (.str w) (.list [.str "in", .str "inout"]) = some (.bool (hid w)) :=
  isO_eq ((by decide +kernel : ∀ w ∈ wnames, isO (fIn false (.str w) (.list [.str "in", .str "inout"])) (hid w) = true) w hw)
theorem hidC {w : Str} (hw : w ∈ wnames) : fIn false (.str w) con_HIDDEN = some (.bool (hid w)) :=
  isO_eq ((by decide +kernel : ∀ w ∈ wnames, isO (fIn false (.str w) con_HIDDEN) (hid w) = true) w hw)
theorem hidN {w : Str} (hw : w ∈ wnames) : fIn true (.str w) con_HIDDEN = some (.bool (!hid w)) :=
  isO_eq ((by decide +kernel : ∀ w ∈ wnames, isO (fIn true (.str w) con_HIDDEN) (!hid w) = true) w hw)
theorem eqK {k s : Str} (hk : k ∈ kk6) (hs : s ∈ kk6) : fEq (.str k) (.str s) = some (.bool (decide (k = s))) :=
  isO_eq ((by decide +kernel : ∀ k ∈ kk6, ∀ s ∈ kk6, isO (fEq (.str k) (.str s)) (decide (k = s)) = true) k hk s hs)
theorem eqR {w : Str} (hw : w ∈ wnames) : fEq (.str w) (.str "relabel") = some (.bool (decide (w = "relabel"))) :=
  isO_eq ((by decide +kernel : ∀ w ∈ wnames, isO (fEq (.str w) (.str "relabel")) (decide (w = "relabel")) = true) w hw)
def cbB (k : Str) : Bool := decide (k = "chop") || decide (k = "behead")
theorem cbI {k : Str} (hk : k ∈ kk6) : fIn false (.str k) (.list [.str "chop", .str "behead"]) = some (.bool (cbB k)) :=
  isO_eq ((by decide +kernel : ∀ k ∈ kk6, isO (fIn false (.str k) (.list [.str "chop", .str "behead"])) (cbB k) = true) k hk)
theorem cbN {k : Str} (hk : k ∈ kk6) : fIn true (.str k) (.list [.str "chop", .str "behead"]) = some (.bool (!cbB k)) :=
  isO_eq ((by decide +kernel : ∀ k ∈ kk6, isO (fIn true (.str k) (.list [.str "chop", .str "behead"])) (!cbB k) = true) k hk)
/-- the word of a message -/
def Ms.k : Ms → Str
  | .one k _ => k
  | _ => "turn"
theorem ms_k6 {w : Str} {l : Nat} {x : Ms} (h : msB w l x = true) : x.k ∈ kk6 := by
  cases x with
  | one k c =>
    simp only [msB, Bool.and_eq_true] at h
    have : k ∈ kk := by simpa using h.1.1
    exact (by decide +kernel : ∀ k ∈ kk, k ∈ kk6) k this
  | perm _ => show ("turn" : Str) ∈ kk6; decide +kernel
  | turn => show ("turn" : Str) ∈ kk6; decide +kernel
theorem atI0 {α : Type} (x : α) (xs : List α) : atI (x :: xs) 0 = some x := by simpa using atI_nat (xs := x :: xs) (s := 0) rfl
theorem atI1 {α : Type} (x y : α) (xs : List α) : atI (x :: y :: xs) 1 = some y := by simpa using atI_nat (xs := x :: y :: xs) (s := 1) rfl
theorem atI2 {α : Type} (x y z : α) (xs : List α) : atI (x :: y :: z :: xs) 2 = some z := by simpa using atI_nat (xs := x :: y :: z :: xs) (s := 2) rfl
end K02

end
section
namespace K02
open PySem PySem.Spec PyProof.Rows L2 TW

def edElt : M PyData := dFx (xBin fAdd (oN 4) (oV (dTup (aV (dVar 6) aNil))))
def edIt1A : M (List TW.Arg) := aV (dFx (xBin fAdd (oV (dFx (xFn fLen (aO (oN 2) aNil)))) (oV (dC (.int 1))))) aNil
def edIt1 : M (List PyData) := aBind edIt1A TW.iRange1
def edIt2A : M (List TW.Arg) := aV (dFx (xFn fLen (aO (oN 2) aNil))) aNil
def edIt2 : M (List PyData) := aBind edIt2A TW.iRange1
def edT2 : M Bool := (dBin fEq (oV (dBin fIx (oN 2) (oN 6))) (oV (dBin fIx (oN 4) (oV (dC (.int 1)))))).bind asB
def edLc1 : M (List PyData) := lLc [6] edIt1 (gN 6) tYesD edElt
def edLc2 : M (List PyData) := lLc [6] edIt2 (gN 6) edT2 edElt
def eb1 : M Fl := sSetX 5 (xV (dBin fIx (oN 4) (oV (dC (.int 0)))))
def ebH : M Bool := (dBin (fIn false) (oN 0) (oV (dFz (lLst (aV (dC (.str "in")) (aV (dC (.str "inout")) aNil)))))).bind asB
def ebP : M Bool := (dBin fEq (oN 5) (oV (dC (.str "put")))).bind asB
def ebS1 : M Fl := sSetX 3 (xBin fAdd (oN 3) (oV (dFz edLc1)))
def ebS2 : M Fl := sSetX 3 (xBin fAdd (oN 3) (oV (dFz edLc2)))
def ebC : M Bool := (dBin fEq (oN 5) (oV (dC (.str "chop")))).bind asB
def ebC2 : M Bool := (dBin fEq (oV (dFx (xSl (oN 2) (pAt (dNeg (dC (.int 1)))) pNo))) (oV (dTup (aV (dBin fIx (oN 4) (oV (dC (.int 1)))) aNil)))).bind asB
def ebB : M Bool := (dBin fEq (oN 5) (oV (dC (.str "behead")))).bind asB
def ebB2 : M Bool := (dBin fEq (oV (dFx (xSl (oN 2) pNo (pAt (dC (.int 1)))))) (oV (dTup (aV (dBin fIx (oN 4) (oV (dC (.int 1)))) aNil)))).bind asB
def ebA : M Fl := sDrop (mOwn 3 fAppend (aV (dVar 4) aNil))
def ebN : M Bool := (dBin (fIn true) (oN 5) (oV (dFz (lLst (aV (dC (.str "chop")) (aV (dC (.str "behead")) aNil)))))).bind asB
def edBody : M Fl := sSeq eb1 (sIf ebH (sIf ebP ebS1 ebS2) (sIf (dtOr (dtAnd ebC ebC2) (dtAnd ebB ebB2)) ebA (sIf ebN ebA sNil)))
def edFor : M Fl := sFor (iSeq (dCall (D__law_messages) (aV (dVar 0) (aV (dVar 1) aNil)))) (gN 4) edBody
theorem law_edits_eq : D__law_edits = fnOf 3 7 (sSeq (sSetX 3 (xL (lLst aNil))) (sSeq edFor (sRet (dVar 3)))) := rfl
section
variable {w : Str} {l c : Nat} {t : List Nat} {st : List PyData} {k : Str} {m : PyData} {y5 y6 : Sl}
theorem eb1_ok {rest : List PyData} (h5 : nio y5 = true) : eb1 [.v (.str w), .v (.int (l : Nat)), .v (.tuple (nats t)), .l st, .v (.tuple (.str k :: rest)), y5, y6] = .ok .nx [.v (.str w), .v (.int (l : Nat)), .v (.tuple (nats t)), .l st, .v (.tuple (.str k :: rest)), .v (.str k), y6] := by
  simp [eb1, fnOf, sSeq, sSetX, xV, xL, dCall, aV, aIo, aNil, dVar, M.bind, Res.bind, M.ret, M.opt, reso, nodupB, ioIx, argsSl, backSl, tSetX, lLst, aBind, allV, dC, sizeLine_eq, sFor, iSeq, items, sRet, sIf, dtOr, dtNot, dtAnd, asB, dIsi, dIsi2, isB, tyN, dBin, two, oV, oN, dFx, xFn, aO, resA, fLen, fNe_int, fEq_int, fNe_bool, fEq_bool, fEq_none, fEq_nil, fLe, fGt, fGe, fCmp, dFz, fTuple, sNil, sDrop, dChain, dAnd, dNot, Sl.own, Sl.put, dGen, genB, lLc, lcB, iEnZip, TW.iEnum, gT, gLen, gsC, gsN, sAsg, tAsgG, gN_eq, tSet_eq, tSetL_eq, noIo_eq, wipeR, nio_un, nio_v, nio_l, fInt, fSub, fAdd, xBin, fIx, xSl, pAt, pNo, fSl, dIf, fIs, isNone, unwipe_eq, nio_wp, sh_int, sh_bool, sh_none, eqv_int, eqv_bool, eqv_none, atI0, h5]
theorem ebH_ok (hw : w ∈ wnames) : ebH [.v (.str w), .v (.int (l : Nat)), .v (.tuple (nats t)), .l st, .v m, y5, y6] = .ok (hid w) [.v (.str w), .v (.int (l : Nat)), .v (.tuple (nats t)), .l st, .v m, y5, y6] := by
  have e := hidL hw
  simp [ebH, fnOf, sSeq, sSetX, xV, xL, dCall, aV, aIo, aNil, dVar, M.bind, Res.bind, M.ret, M.opt, reso, nodupB, ioIx, argsSl, backSl, tSetX, lLst, aBind, allV, dC, sizeLine_eq, sFor, iSeq, items, sRet, sIf, dtOr, dtNot, dtAnd, asB, dIsi, dIsi2, isB, tyN, dBin, two, oV, oN, dFx, xFn, aO, resA, fLen, fNe_int, fEq_int, fNe_bool, fEq_bool, fEq_none, fEq_nil, fLe, fGt, fGe, fCmp, dFz, fTuple, sNil, sDrop, dChain, dAnd, dNot, Sl.own, Sl.put, dGen, genB, lLc, lcB, iEnZip, TW.iEnum, gT, gLen, gsC, gsN, sAsg, tAsgG, gN_eq, tSet_eq, tSetL_eq, noIo_eq, wipeR, nio_un, nio_v, nio_l, fInt, fSub, fAdd, xBin, fIx, xSl, pAt, pNo, fSl, dIf, fIs, isNone, unwipe_eq, nio_wp, sh_int, sh_bool, sh_none, eqv_int, eqv_bool, eqv_none, e]
theorem ebP_ok (hk : k ∈ kk6) : ebP [.v (.str w), .v (.int (l : Nat)), .v (.tuple (nats t)), .l st, .v m, .v (.str k), y6] = .ok (decide (k = "put")) [.v (.str w), .v (.int (l : Nat)), .v (.tuple (nats t)), .l st, .v m, .v (.str k), y6] := by
  have e := eqK (s := "put") hk (by decide +kernel)
  simp [ebP, fnOf, sSeq, sSetX, xV, xL, dCall, aV, aIo, aNil, dVar, M.bind, Res.bind, M.ret, M.opt, reso, nodupB, ioIx, argsSl, backSl, tSetX, lLst, aBind, allV, dC, sizeLine_eq, sFor, iSeq, items, sRet, sIf, dtOr, dtNot, dtAnd, asB, dIsi, dIsi2, isB, tyN, dBin, two, oV, oN, dFx, xFn, aO, resA, fLen, fNe_int, fEq_int, fNe_bool, fEq_bool, fEq_none, fEq_nil, fLe, fGt, fGe, fCmp, dFz, fTuple, sNil, sDrop, dChain, dAnd, dNot, Sl.own, Sl.put, dGen, genB, lLc, lcB, iEnZip, TW.iEnum, gT, gLen, gsC, gsN, sAsg, tAsgG, gN_eq, tSet_eq, tSetL_eq, noIo_eq, wipeR, nio_un, nio_v, nio_l, fInt, fSub, fAdd, xBin, fIx, xSl, pAt, pNo, fSl, dIf, fIs, isNone, unwipe_eq, nio_wp, sh_int, sh_bool, sh_none, eqv_int, eqv_bool, eqv_none, e]
theorem ebC_ok (hk : k ∈ kk6) : ebC [.v (.str w), .v (.int (l : Nat)), .v (.tuple (nats t)), .l st, .v m, .v (.str k), y6] = .ok (decide (k = "chop")) [.v (.str w), .v (.int (l : Nat)), .v (.tuple (nats t)), .l st, .v m, .v (.str k), y6] := by
  have e := eqK (s := "chop") hk (by decide +kernel)
  simp [ebC, fnOf, sSeq, sSetX, xV, xL, dCall, aV, aIo, aNil, dVar, M.bind, Res.bind, M.ret, M.opt, reso, nodupB, ioIx, argsSl, backSl, tSetX, lLst, aBind, allV, dC, sizeLine_eq, sFor, iSeq, items, sRet, sIf, dtOr, dtNot, dtAnd, asB, dIsi, dIsi2, isB, tyN, dBin, two, oV, oN, dFx, xFn, aO, resA, fLen, fNe_int, fEq_int, fNe_bool, fEq_bool, fEq_none, fEq_nil, fLe, fGt, fGe, fCmp, dFz, fTuple, sNil, sDrop, dChain, dAnd, dNot, Sl.own, Sl.put, dGen, genB, lLc, lcB, iEnZip, TW.iEnum, gT, gLen, gsC, gsN, sAsg, tAsgG, gN_eq, tSet_eq, tSetL_eq, noIo_eq, wipeR, nio_un, nio_v, nio_l, fInt, fSub, fAdd, xBin, fIx, xSl, pAt, pNo, fSl, dIf, fIs, isNone, unwipe_eq, nio_wp, sh_int, sh_bool, sh_none, eqv_int, eqv_bool, eqv_none, e]
theorem ebB_ok (hk : k ∈ kk6) : ebB [.v (.str w), .v (.int (l : Nat)), .v (.tuple (nats t)), .l st, .v m, .v (.str k), y6] = .ok (decide (k = "behead")) [.v (.str w), .v (.int (l : Nat)), .v (.tuple (nats t)), .l st, .v m, .v (.str k), y6] := by
  have e := eqK (s := "behead") hk (by decide +kernel)
  simp [ebB, fnOf, sSeq, sSetX, xV, xL, dCall, aV, aIo, aNil, dVar, M.bind, Res.bind, M.ret, M.opt, reso, nodupB, ioIx, argsSl, backSl, tSetX, lLst, aBind, allV, dC, sizeLine_eq, sFor, iSeq, items, sRet, sIf, dtOr, dtNot, dtAnd, asB, dIsi, dIsi2, isB, tyN, dBin, two, oV, oN, dFx, xFn, aO, resA, fLen, fNe_int, fEq_int, fNe_bool, fEq_bool, fEq_none, fEq_nil, fLe, fGt, fGe, fCmp, dFz, fTuple, sNil, sDrop, dChain, dAnd, dNot, Sl.own, Sl.put, dGen, genB, lLc, lcB, iEnZip, TW.iEnum, gT, gLen, gsC, gsN, sAsg, tAsgG, gN_eq, tSet_eq, tSetL_eq, noIo_eq, wipeR, nio_un, nio_v, nio_l, fInt, fSub, fAdd, xBin, fIx, xSl, pAt, pNo, fSl, dIf, fIs, isNone, unwipe_eq, nio_wp, sh_int, sh_bool, sh_none, eqv_int, eqv_bool, eqv_none, e]
theorem ebN_ok (hk : k ∈ kk6) : ebN [.v (.str w), .v (.int (l : Nat)), .v (.tuple (nats t)), .l st, .v m, .v (.str k), y6] = .ok (!cbB k) [.v (.str w), .v (.int (l : Nat)), .v (.tuple (nats t)), .l st, .v m, .v (.str k), y6] := by
  have e := cbN hk
  simp [ebN, fnOf, sSeq, sSetX, xV, xL, dCall, aV, aIo, aNil, dVar, M.bind, Res.bind, M.ret, M.opt, reso, nodupB, ioIx, argsSl, backSl, tSetX, lLst, aBind, allV, dC, sizeLine_eq, sFor, iSeq, items, sRet, sIf, dtOr, dtNot, dtAnd, asB, dIsi, dIsi2, isB, tyN, dBin, two, oV, oN, dFx, xFn, aO, resA, fLen, fNe_int, fEq_int, fNe_bool, fEq_bool, fEq_none, fEq_nil, fLe, fGt, fGe, fCmp, dFz, fTuple, sNil, sDrop, dChain, dAnd, dNot, Sl.own, Sl.put, dGen, genB, lLc, lcB, iEnZip, TW.iEnum, gT, gLen, gsC, gsN, sAsg, tAsgG, gN_eq, tSet_eq, tSetL_eq, noIo_eq, wipeR, nio_un, nio_v, nio_l, fInt, fSub, fAdd, xBin, fIx, xSl, pAt, pNo, fSl, dIf, fIs, isNone, unwipe_eq, nio_wp, sh_int, sh_bool, sh_none, eqv_int, eqv_bool, eqv_none, e]
theorem ebA_ok (hs : st.length < 10000) : ebA [.v (.str w), .v (.int (l : Nat)), .v (.tuple (nats t)), .l st, .v m, y5, y6] = .ok .nx [.v (.str w), .v (.int (l : Nat)), .v (.tuple (nats t)), .l (st ++ [m]), .v m, y5, y6] := by
  have hz : st.length < 16777216 := by omega
  simp [ebA, fnOf, sSeq, sSetX, xV, xL, dCall, aV, aIo, aNil, dVar, M.bind, Res.bind, M.ret, M.opt, reso, nodupB, ioIx, argsSl, backSl, tSetX, lLst, aBind, allV, dC, sizeLine_eq, sFor, iSeq, items, sRet, sIf, dtOr, dtNot, dtAnd, asB, dIsi, dIsi2, isB, tyN, dBin, two, oV, oN, dFx, xFn, aO, resA, fLen, fNe_int, fEq_int, fNe_bool, fEq_bool, fEq_none, fEq_nil, fLe, fGt, fGe, fCmp, dFz, fTuple, sNil, sDrop, dChain, dAnd, dNot, Sl.own, Sl.put, dGen, genB, lLc, lcB, iEnZip, TW.iEnum, gT, gLen, gsC, gsN, sAsg, tAsgG, gN_eq, tSet_eq, tSetL_eq, noIo_eq, wipeR, nio_un, nio_v, nio_l, fInt, fSub, fAdd, xBin, fIx, xSl, pAt, pNo, fSl, dIf, fIs, isNone, unwipe_eq, nio_wp, sh_int, sh_bool, sh_none, eqv_int, eqv_bool, eqv_none, mOwn, ownAt, setAt, fAppend, hz]
/-- the message with a place -/
def ext (k : Str) (c : Nat) (i : Nat) : PyData := .tuple [.str k, .int (c : Nat), .int (i : Nat)]
def extD (k : Str) (c : Nat) : PyData → PyData
  | .int i => ext k c i.toNat
  | _ => .none
theorem edElt_ok (i : Nat) : edElt [.v (.str w), .v (.int (l : Nat)), .v (.tuple (nats t)), .l st, .v (Ms.one k c).d, y5, .v (.int (i : Nat))] = .ok (ext k c i) [.v (.str w), .v (.int (l : Nat)), .v (.tuple (nats t)), .l st, .v (Ms.one k c).d, y5, .v (.int (i : Nat))] := by
  simp [edElt, Ms.d, ext, dTup, fnOf, sSeq, sSetX, xV, xL, dCall, aV, aIo, aNil, dVar, M.bind, Res.bind, M.ret, M.opt, reso, nodupB, ioIx, argsSl, backSl, tSetX, lLst, aBind, allV, dC, sizeLine_eq, sFor, iSeq, items, sRet, sIf, dtOr, dtNot, dtAnd, asB, dIsi, dIsi2, isB, tyN, dBin, two, oV, oN, dFx, xFn, aO, resA, fLen, fNe_int, fEq_int, fNe_bool, fEq_bool, fEq_none, fEq_nil, fLe, fGt, fGe, fCmp, dFz, fTuple, sNil, sDrop, dChain, dAnd, dNot, Sl.own, Sl.put, dGen, genB, lLc, lcB, iEnZip, TW.iEnum, gT, gLen, gsC, gsN, sAsg, tAsgG, gN_eq, tSet_eq, tSetL_eq, noIo_eq, wipeR, nio_un, nio_v, nio_l, fInt, fSub, fAdd, xBin, fIx, xSl, pAt, pNo, fSl, dIf, fIs, isNone, unwipe_eq, nio_wp, sh_int, sh_bool, sh_none, eqv_int, eqv_bool, eqv_none]
theorem edLc1_ok (ht : t.length ≤ 100) (h6 : nio y6 = true) : ∃ z, nio z = true ∧ edLc1 [.v (.str w), .v (.int (l : Nat)), .v (.tuple (nats t)), .l st, .v (Ms.one k c).d, y5, y6] = .ok ((List.range (t.length + 1)).map (ext k c)) [.v (.str w), .v (.int (l : Nat)), .v (.tuple (nats t)), .l st, .v (Ms.one k c).d, y5, z] := by
  obtain ⟨r', q, y, hy, rfl⟩ := lc_map (own := [6]) (T := gN 6) (tt := tYesD) (elt := edElt) (f := extD k c) (P := fun r => ∃ y, nio y = true ∧ r = [.v (.str w), .v (.int (l : Nat)), .v (.tuple (nats t)), .l st, .v (Ms.one k c).d, y5, y]) (ds := rangeD 0 (t.length + 1)) (acc := []) (r := [.v (.str w), .v (.int (l : Nat)), .v (.tuple (nats t)), .l st, .v (Ms.one k c).d, y5, y6]) ⟨y6, h6, rfl⟩
    (fun d hd r hr => by
      obtain ⟨y, hy, rfl⟩ := hr
      obtain ⟨i, _, rfl⟩ := List.mem_map.mp hd
      refine ⟨by simp [noIo_eq, hy], [.v (.str w), .v (.int (l : Nat)), .v (.tuple (nats t)), .l st, .v (Ms.one k c).d, y5, .v (.int (i : Nat))], [.v (.str w), .v (.int (l : Nat)), .v (.tuple (nats t)), .l st, .v (Ms.one k c).d, y5, .v (.int (i : Nat))], [.v (.str w), .v (.int (l : Nat)), .v (.tuple (nats t)), .l st, .v (Ms.one k c).d, y5, .v (.int (i : Nat))], by simp [gN_eq, wipeR, nio], rfl, ?_, _, rfl, rfl⟩
      have e := edElt_ok (w := w) (l := l) (t := t) (st := st) (k := k) (c := c) (y5 := y5) i
      simpa [extD] using e)
  have hn : noIo [.v (.str w), .v (.int (l : Nat)), .v (.tuple (nats t)), .l st, .v (Ms.one k c).d, y5, y] [6] = true := by simp [noIo_eq, hy]
  have ei : edIt1 [.v (.str w), .v (.int (l : Nat)), .v (.tuple (nats t)), .l st, .v (Ms.one k c).d, y5, y6] = .ok (rangeD 0 (t.length + 1)) [.v (.str w), .v (.int (l : Nat)), .v (.tuple (nats t)), .l st, .v (Ms.one k c).d, y5, y6] := range1_ok (by simp [edIt1A, fnOf, sSeq, sSetX, xV, xL, dCall, aV, aIo, aNil, dVar, M.bind, Res.bind, M.ret, M.opt, reso, nodupB, ioIx, argsSl, backSl, tSetX, lLst, aBind, allV, dC, sizeLine_eq, sFor, iSeq, items, sRet, sIf, dtOr, dtNot, dtAnd, asB, dIsi, dIsi2, isB, tyN, dBin, two, oV, oN, dFx, xFn, aO, resA, fLen, fNe_int, fEq_int, fNe_bool, fEq_bool, fEq_none, fEq_nil, fLe, fGt, fGe, fCmp, dFz, fTuple, sNil, sDrop, dChain, dAnd, dNot, Sl.own, Sl.put, dGen, genB, lLc, lcB, iEnZip, TW.iEnum, gT, gLen, gsC, gsN, sAsg, tAsgG, gN_eq, tSet_eq, tSetL_eq, noIo_eq, wipeR, nio_un, nio_v, nio_l, fInt, fSub, fAdd, xBin, fIx, xSl, pAt, pNo, fSl, dIf, fIs, isNone, unwipe_eq, nio_wp, sh_int, sh_bool, sh_none, eqv_int, eqv_bool, eqv_none, nats]) (by omega)
  have em : (rangeD 0 (t.length + 1)).map (extD k c) = (List.range (t.length + 1)).map (ext k c) := by
    unfold rangeD
    rw [List.map_map]
    apply List.map_congr_left
    intro i _
    simp [extD]
  refine ⟨wp y6, nio_wp _, ?_⟩
  rw [List.nil_append, em] at q
  unfold edLc1
  rw [lLc_ok ei, lcB_ok (sizeLine_le (by rw [rangeD_len]; omega)) q hn]
  simp [unwipe_eq]
/-- is the letter there -/
def atB (t : List Nat) (c : Nat) : PyData → Bool
  | .int i => decide (t[i.toNat]? = some c)
  | _ => false
theorem nats_get {xs : List Nat} {i : Nat} (h : i < xs.length) : (nats xs)[i]? = some (.int ((xs[i] : Nat) : Int)) := by simp [nats, h]
theorem edT2_ok (i : Nat) (hi : i < t.length) : edT2 [.v (.str w), .v (.int (l : Nat)), .v (.tuple (nats t)), .l st, .v (Ms.one k c).d, y5, .v (.int (i : Nat))] = .ok (atB t c (.int (i : Nat))) [.v (.str w), .v (.int (l : Nat)), .v (.tuple (nats t)), .l st, .v (Ms.one k c).d, y5, .v (.int (i : Nat))] := by
  have e1 := atI_nat (nats_get hi)
  simp [edT2, Ms.d, fnOf, sSeq, sSetX, xV, xL, dCall, aV, aIo, aNil, dVar, M.bind, Res.bind, M.ret, M.opt, reso, nodupB, ioIx, argsSl, backSl, tSetX, lLst, aBind, allV, dC, sizeLine_eq, sFor, iSeq, items, sRet, sIf, dtOr, dtNot, dtAnd, asB, dIsi, dIsi2, isB, tyN, dBin, two, oV, oN, dFx, xFn, aO, resA, fLen, fNe_int, fEq_int, fNe_bool, fEq_bool, fEq_none, fEq_nil, fLe, fGt, fGe, fCmp, dFz, fTuple, sNil, sDrop, dChain, dAnd, dNot, Sl.own, Sl.put, dGen, genB, lLc, lcB, iEnZip, TW.iEnum, gT, gLen, gsC, gsN, sAsg, tAsgG, gN_eq, tSet_eq, tSetL_eq, noIo_eq, wipeR, nio_un, nio_v, nio_l, fInt, fSub, fAdd, xBin, fIx, xSl, pAt, pNo, fSl, dIf, fIs, isNone, unwipe_eq, nio_wp, sh_int, sh_bool, sh_none, eqv_int, eqv_bool, eqv_none, e1, atI1, atB, hi]
  omega
theorem edLc2_ok (ht : t.length ≤ 100) (h6 : nio y6 = true) : ∃ z, nio z = true ∧ edLc2 [.v (.str w), .v (.int (l : Nat)), .v (.tuple (nats t)), .l st, .v (Ms.one k c).d, y5, y6] = .ok (((List.range t.length).filter fun i => decide (t[i]? = some c)).map (ext k c)) [.v (.str w), .v (.int (l : Nat)), .v (.tuple (nats t)), .l st, .v (Ms.one k c).d, y5, z] := by
  obtain ⟨r', q, y, hy, rfl⟩ := lc_flt (own := [6]) (T := gN 6) (tt := edT2) (elt := edElt) (g := atB t c) (f := extD k c) (P := fun r => ∃ y, nio y = true ∧ r = [.v (.str w), .v (.int (l : Nat)), .v (.tuple (nats t)), .l st, .v (Ms.one k c).d, y5, y]) (ds := rangeD 0 t.length) (acc := []) (r := [.v (.str w), .v (.int (l : Nat)), .v (.tuple (nats t)), .l st, .v (Ms.one k c).d, y5, y6]) ⟨y6, h6, rfl⟩
    (fun d hd r hr => by
      obtain ⟨y, hy, rfl⟩ := hr
      obtain ⟨i, hi, rfl⟩ := List.mem_map.mp hd
      have hi := List.mem_range.mp hi
      refine ⟨by simp [noIo_eq, hy], [.v (.str w), .v (.int (l : Nat)), .v (.tuple (nats t)), .l st, .v (Ms.one k c).d, y5, .v (.int (i : Nat))], [.v (.str w), .v (.int (l : Nat)), .v (.tuple (nats t)), .l st, .v (Ms.one k c).d, y5, .v (.int (i : Nat))], by simp [gN_eq, wipeR, nio], ?_, ⟨_, rfl, rfl⟩, fun _ => ⟨[.v (.str w), .v (.int (l : Nat)), .v (.tuple (nats t)), .l st, .v (Ms.one k c).d, y5, .v (.int (i : Nat))], ?_, _, rfl, rfl⟩⟩
      · have e := edT2_ok (w := w) (l := l) (st := st) (k := k) (c := c) (y5 := y5) i hi
        simpa using e
      · have e := edElt_ok (w := w) (l := l) (t := t) (st := st) (k := k) (c := c) (y5 := y5) i
        simpa [extD] using e)
  have hn : noIo [.v (.str w), .v (.int (l : Nat)), .v (.tuple (nats t)), .l st, .v (Ms.one k c).d, y5, y] [6] = true := by simp [noIo_eq, hy]
  have ei : edIt2 [.v (.str w), .v (.int (l : Nat)), .v (.tuple (nats t)), .l st, .v (Ms.one k c).d, y5, y6] = .ok (rangeD 0 t.length) [.v (.str w), .v (.int (l : Nat)), .v (.tuple (nats t)), .l st, .v (Ms.one k c).d, y5, y6] := range1_ok (by simp [edIt2A, fnOf, sSeq, sSetX, xV, xL, dCall, aV, aIo, aNil, dVar, M.bind, Res.bind, M.ret, M.opt, reso, nodupB, ioIx, argsSl, backSl, tSetX, lLst, aBind, allV, dC, sizeLine_eq, sFor, iSeq, items, sRet, sIf, dtOr, dtNot, dtAnd, asB, dIsi, dIsi2, isB, tyN, dBin, two, oV, oN, dFx, xFn, aO, resA, fLen, fNe_int, fEq_int, fNe_bool, fEq_bool, fEq_none, fEq_nil, fLe, fGt, fGe, fCmp, dFz, fTuple, sNil, sDrop, dChain, dAnd, dNot, Sl.own, Sl.put, dGen, genB, lLc, lcB, iEnZip, TW.iEnum, gT, gLen, gsC, gsN, sAsg, tAsgG, gN_eq, tSet_eq, tSetL_eq, noIo_eq, wipeR, nio_un, nio_v, nio_l, fInt, fSub, fAdd, xBin, fIx, xSl, pAt, pNo, fSl, dIf, fIs, isNone, unwipe_eq, nio_wp, sh_int, sh_bool, sh_none, eqv_int, eqv_bool, eqv_none, nats]) (by omega)
  have em : ((rangeD 0 t.length).filter (atB t c)).map (extD k c) = ((List.range t.length).filter fun i => decide (t[i]? = some c)).map (ext k c) := by
    unfold rangeD
    have h1 : (extD k c ∘ fun (i : Nat) => PyData.int (0 + (i : Int))) = ext k c := by
      funext i
      simp [extD]
    have h2 : (atB t c ∘ fun (i : Nat) => PyData.int (0 + (i : Int))) = fun i => decide (t[i]? = some c) := by
      funext i
      simp [atB]
    rw [List.filter_map, List.map_map, h1, h2]
  refine ⟨wp y6, nio_wp _, ?_⟩
  rw [List.nil_append, em] at q
  unfold edLc2
  rw [lLc_ok ei, lcB_ok (sizeLine_le (by rw [rangeD_len]; omega)) q hn]
  simp [unwipe_eq]
end
end K02

end
section
namespace K02
open PySem PySem.Spec PyProof.Rows L2 TW

theorem eqv_nats : ∀ (a b : List Nat), PyData.eqvAll (nats a) (nats b) = decide (a = b)
  | [], [] => rfl
  | [], _ :: _ => rfl
  | _ :: _, [] => rfl
  | x :: a, y :: b => by
    show (PyData.eqv (.int (x : Nat)) (.int (y : Nat)) && PyData.eqvAll (nats a) (nats b)) = _
    rw [eqv_nats a b, eqv_int]
    by_cases h : x = y
    · by_cases h2 : a = b <;> simp [h, h2]
    · have h3 : ¬ ((x : Int) = (y : Int)) := by omega
      simp [h, h3]
theorem nats_int {a : List Nat} : ∀ x ∈ nats a, ∃ k : Int, x = .int k := fun x h => by
  obtain ⟨i, _, rfl⟩ := List.mem_map.mp h
  exact ⟨_, rfl⟩
theorem fEq_nats (a b : List Nat) : fEq (.tuple (nats a)) (.tuple (nats b)) = some (.bool (decide (a = b))) := by
  unfold fEq
  rw [sh_intsT nats_int, sh_intsT nats_int]
  show some (PyData.bool (PyData.eqvAll (nats a) (nats b))) = _
  rw [eqv_nats]
theorem cut_last (t : List Nat) : TW.cutD (nats t) (some (-1)) none = nats (t.drop (t.length - 1)) := by
  unfold TW.cutD
  have hl : (nats t).length = t.length := by simp [nats]
  have e : HT.sIx (nats t).length 0 (some (-1)) = t.length - 1 := by
    rw [hl]
    show (if (-1 : Int) < 0 then (-1 + (t.length : Int)).toNat else min (-1 : Int).toNat t.length) = _
    rw [if_pos (by omega)]
    omega
  rw [e, HT.sIx_none, List.take_of_length_le (by simp)]
  simp [nats]
theorem cut_first (t : List Nat) : TW.cutD (nats t) none (some 1) = nats (t.take 1) := by
  unfold TW.cutD
  have hl : (nats t).length = t.length := by simp [nats]
  have e : HT.sIx (nats t).length (nats t).length (some 1) = min 1 t.length := by
    rw [hl]
    exact HT.sIx_nat t.length t.length 1
  rw [e, HT.sIx_none]
  cases t with
  | nil => rfl
  | cons x t => simp [nats]
section
variable {w : Str} {l c : Nat} {t : List Nat} {st : List PyData} {k : Str} {m : PyData} {y5 y6 : Sl}
theorem ebC2_ok : ebC2 [.v (.str w), .v (.int (l : Nat)), .v (.tuple (nats t)), .l st, .v (Ms.one k c).d, y5, y6] = .ok (decide (t.drop (t.length - 1) = [c])) [.v (.str w), .v (.int (l : Nat)), .v (.tuple (nats t)), .l st, .v (Ms.one k c).d, y5, y6] := by
  have e := fEq_nats (t.drop (t.length - 1)) [c]
  have e1 := cut_last t
  change fEq _ (.tuple [.int (c : Nat)]) = _ at e
  simp [ebC2, Ms.d, dNeg, dTup, fnOf, sSeq, sSetX, xV, xL, dCall, aV, aIo, aNil, dVar, M.bind, Res.bind, M.ret, M.opt, reso, nodupB, ioIx, argsSl, backSl, tSetX, lLst, aBind, allV, dC, sizeLine_eq, sFor, iSeq, items, sRet, sIf, dtOr, dtNot, dtAnd, asB, dIsi, dIsi2, isB, tyN, dBin, two, oV, oN, dFx, xFn, aO, resA, fLen, fNe_int, fEq_int, fNe_bool, fEq_bool, fEq_none, fEq_nil, fLe, fGt, fGe, fCmp, dFz, fTuple, sNil, sDrop, dChain, dAnd, dNot, Sl.own, Sl.put, dGen, genB, lLc, lcB, iEnZip, TW.iEnum, gT, gLen, gsC, gsN, sAsg, tAsgG, gN_eq, tSet_eq, tSetL_eq, noIo_eq, wipeR, nio_un, nio_v, nio_l, fInt, fSub, fAdd, xBin, fIx, xSl, pAt, pNo, fSl, dIf, fIs, isNone, unwipe_eq, nio_wp, sh_int, sh_bool, sh_none, eqv_int, eqv_bool, eqv_none, atI1, e1, e]
theorem ebB2_ok : ebB2 [.v (.str w), .v (.int (l : Nat)), .v (.tuple (nats t)), .l st, .v (Ms.one k c).d, y5, y6] = .ok (decide (t.take 1 = [c])) [.v (.str w), .v (.int (l : Nat)), .v (.tuple (nats t)), .l st, .v (Ms.one k c).d, y5, y6] := by
  have e := fEq_nats (t.take 1) [c]
  have e1 := cut_first t
  change fEq _ (.tuple [.int (c : Nat)]) = _ at e
  simp [ebB2, Ms.d, dTup, fnOf, sSeq, sSetX, xV, xL, dCall, aV, aIo, aNil, dVar, M.bind, Res.bind, M.ret, M.opt, reso, nodupB, ioIx, argsSl, backSl, tSetX, lLst, aBind, allV, dC, sizeLine_eq, sFor, iSeq, items, sRet, sIf, dtOr, dtNot, dtAnd, asB, dIsi, dIsi2, isB, tyN, dBin, two, oV, oN, dFx, xFn, aO, resA, fLen, fNe_int, fEq_int, fNe_bool, fEq_bool, fEq_none, fEq_nil, fLe, fGt, fGe, fCmp, dFz, fTuple, sNil, sDrop, dChain, dAnd, dNot, Sl.own, Sl.put, dGen, genB, lLc, lcB, iEnZip, TW.iEnum, gT, gLen, gsC, gsN, sAsg, tAsgG, gN_eq, tSet_eq, tSetL_eq, noIo_eq, wipeR, nio_un, nio_v, nio_l, fInt, fSub, fAdd, xBin, fIx, xSl, pAt, pNo, fSl, dIf, fIs, isNone, unwipe_eq, nio_wp, sh_int, sh_bool, sh_none, eqv_int, eqv_bool, eqv_none, atI1, e1, e]
/-- the edits that a message makes -/
def edS (w : Str) (t : List Nat) : Ms → List PyData
  | .one k c => if hid w = true then (if k = "put" then (List.range (t.length + 1)).map (ext k c) else ((List.range t.length).filter fun i => decide (t[i]? = some c)).map (ext k c))
    else if (k = "chop" ∧ t.drop (t.length - 1) = [c]) ∨ (k = "behead" ∧ t.take 1 = [c]) then [(Ms.one k c).d] else if cbB k = true then [] else [(Ms.one k c).d]
  | x => [x.d]
theorem edS_len (x : Ms) : (edS w t x).length ≤ t.length + 1 := by
  cases x with
  | one k c =>
    simp only [edS]
    split
    · split
      · simp
      · rw [List.length_map]
        have := List.length_filter_le (fun i => decide (t[i]? = some c)) (List.range t.length)
        rw [List.length_range] at this
        omega
    · split
      · simp
      · split <;> simp
  | perm _ => simp [edS]
  | turn => simp [edS]
theorem add_ok {xs : List PyData} {F : M (List PyData)} {z : Sl} (h : F [.v (.str w), .v (.int (l : Nat)), .v (.tuple (nats t)), .l st, .v m, y5, y6] = .ok xs [.v (.str w), .v (.int (l : Nat)), .v (.tuple (nats t)), .l st, .v m, y5, z]) (hs : st.length + xs.length ≤ 10000) : (sSetX 3 (xBin fAdd (oN 3) (oV (dFz F)))) [.v (.str w), .v (.int (l : Nat)), .v (.tuple (nats t)), .l st, .v m, y5, y6] = .ok .nx [.v (.str w), .v (.int (l : Nat)), .v (.tuple (nats t)), .l (st ++ xs), .v m, y5, z] := by
  have hz : st.length + xs.length ≤ 16777216 := by omega
  simp [fnOf, sSeq, sSetX, xV, xL, dCall, aV, aIo, aNil, dVar, M.bind, Res.bind, M.ret, M.opt, reso, nodupB, ioIx, argsSl, backSl, tSetX, lLst, aBind, allV, dC, sizeLine_eq, sFor, iSeq, items, sRet, sIf, dtOr, dtNot, dtAnd, asB, dIsi, dIsi2, isB, tyN, dBin, two, oV, oN, dFx, xFn, aO, resA, fLen, fNe_int, fEq_int, fNe_bool, fEq_bool, fEq_none, fEq_nil, fLe, fGt, fGe, fCmp, dFz, fTuple, sNil, sDrop, dChain, dAnd, dNot, Sl.own, Sl.put, dGen, genB, lLc, lcB, iEnZip, TW.iEnum, gT, gLen, gsC, gsN, sAsg, tAsgG, gN_eq, tSet_eq, tSetL_eq, noIo_eq, wipeR, nio_un, nio_v, nio_l, fInt, fSub, fAdd, xBin, fIx, xSl, pAt, pNo, fSl, dIf, fIs, isNone, unwipe_eq, nio_wp, sh_int, sh_bool, sh_none, eqv_int, eqv_bool, eqv_none, h, hz]
theorem ms_head (x : Ms) : ∃ rest, x.d = .tuple (.str x.k :: rest) := by
  cases x <;> exact ⟨_, rfl⟩
theorem edBody_ok {x : Ms} (hw : w ∈ wnames) (hx : msB w l x = true) (ht : t.length ≤ 100) (hs : st.length + (edS w t x).length ≤ 10000) (h5 : nio y5 = true) (h6 : nio y6 = true) :
    ∃ z, nio z = true ∧ edBody [.v (.str w), .v (.int (l : Nat)), .v (.tuple (nats t)), .l st, .v x.d, y5, y6] = .ok .nx [.v (.str w), .v (.int (l : Nat)), .v (.tuple (nats t)), .l (st ++ edS w t x), .v x.d, .v (.str x.k), z] := by
  have hk := ms_k6 hx
  obtain ⟨rest, er⟩ := ms_head x
  have e1 : eb1 [.v (.str w), .v (.int (l : Nat)), .v (.tuple (nats t)), .l st, .v x.d, y5, y6] = .ok .nx [.v (.str w), .v (.int (l : Nat)), .v (.tuple (nats t)), .l st, .v x.d, .v (.str x.k), y6] := by
    rw [er]
    exact eb1_ok h5
  have eH := ebH_ok (l := l) (t := t) (st := st) (m := x.d) (y5 := .v (.str x.k)) (y6 := y6) hw
  have eP := ebP_ok (w := w) (l := l) (t := t) (st := st) (m := x.d) (y6 := y6) hk
  have eC := ebC_ok (w := w) (l := l) (t := t) (st := st) (m := x.d) (y6 := y6) hk
  have eB := ebB_ok (w := w) (l := l) (t := t) (st := st) (m := x.d) (y6 := y6) hk
  have eN := ebN_ok (w := w) (l := l) (t := t) (st := st) (m := x.d) (y6 := y6) hk
  unfold edBody
  rw [sSeq_nx e1]
  have turn : x.k = "turn" → hid w = false → edS w t x = [x.d] → ∃ z, nio z = true ∧ (sIf ebH (sIf ebP ebS1 ebS2) (sIf (dtOr (dtAnd ebC ebC2) (dtAnd ebB ebB2)) ebA (sIf ebN ebA sNil))) [.v (.str w), .v (.int (l : Nat)), .v (.tuple (nats t)), .l st, .v x.d, .v (.str x.k), y6] = .ok .nx [.v (.str w), .v (.int (l : Nat)), .v (.tuple (nats t)), .l (st ++ edS w t x), .v x.d, .v (.str x.k), z] := fun ek hh ed => by
    rw [hh] at eH
    rw [ek] at eC eB eN
    rw [show decide (("turn" : Str) = "chop") = false by decide +kernel] at eC
    rw [show decide (("turn" : Str) = "behead") = false by decide +kernel] at eB
    rw [show (!cbB "turn") = true by decide +kernel] at eN
    rw [ed] at hs
    have eA := ebA_ok (w := w) (l := l) (t := t) (st := st) (m := x.d) (y5 := .v (.str x.k)) (y6 := y6) (by simp at hs; omega)
    rw [ek] at eH eA ⊢
    rw [ed]
    exact ⟨y6, h6, (sIf_f eH).trans ((sIf_f (or_ff (and_f eC) (and_f eB))).trans ((sIf_t eN).trans eA))⟩
  cases x with
  | perm ps =>
    simp only [msB, Bool.and_eq_true, decide_eq_true_eq] at hx
    exact turn rfl (by rw [hx.1.1]; decide +kernel) rfl
  | turn =>
    simp only [msB, decide_eq_true_eq] at hx
    exact turn rfl (by rw [hx]; decide +kernel) rfl
  | one k c =>
    have eP : ebP [.v (.str w), .v (.int (l : Nat)), .v (.tuple (nats t)), .l st, .v (Ms.one k c).d, .v (.str k), y6] = .ok (decide (k = "put")) [.v (.str w), .v (.int (l : Nat)), .v (.tuple (nats t)), .l st, .v (Ms.one k c).d, .v (.str k), y6] := eP
    cases hh : hid w with
    | true =>
      rw [hh] at eH
      by_cases hp : k = "put"
      · have ed : edS w t (.one k c) = (List.range (t.length + 1)).map (ext k c) := by simp [edS, hh, hp]
        rw [ed] at hs ⊢
        obtain ⟨z, hz, e⟩ := edLc1_ok (w := w) (l := l) (t := t) (st := st) (k := k) (c := c) (y5 := .v (.str k)) ht h6
        rw [decide_eq_true hp] at eP
        exact ⟨z, hz, (sIf_t eH).trans ((sIf_t eP).trans (add_ok e hs))⟩
      · have ed : edS w t (.one k c) = ((List.range t.length).filter fun i => decide (t[i]? = some c)).map (ext k c) := by simp [edS, hh, hp]
        rw [ed] at hs ⊢
        obtain ⟨z, hz, e⟩ := edLc2_ok (w := w) (l := l) (t := t) (st := st) (k := k) (c := c) (y5 := .v (.str k)) ht h6
        rw [decide_eq_false hp] at eP
        exact ⟨z, hz, (sIf_t eH).trans ((sIf_f eP).trans (add_ok e hs))⟩
    | false =>
      rw [hh] at eH
      have hsl : st.length < 10000 ∨ edS w t (.one k c) = [] := by
        cases hq : edS w t (.one k c) with
        | nil => exact .inr rfl
        | cons a b => rw [hq] at hs; simp at hs; exact .inl (by omega)
      have eC2 := ebC2_ok (w := w) (l := l) (t := t) (st := st) (k := k) (c := c) (y5 := .v (.str k)) (y6 := y6)
      have eB2 := ebB2_ok (w := w) (l := l) (t := t) (st := st) (k := k) (c := c) (y5 := .v (.str k)) (y6 := y6)
      have key : (dtOr (dtAnd ebC ebC2) (dtAnd ebB ebB2)) [.v (.str w), .v (.int (l : Nat)), .v (.tuple (nats t)), .l st, .v (Ms.one k c).d, .v (.str k), y6] = .ok (decide ((k = "chop" ∧ t.drop (t.length - 1) = [c]) ∨ (k = "behead" ∧ t.take 1 = [c]))) [.v (.str w), .v (.int (l : Nat)), .v (.tuple (nats t)), .l st, .v (Ms.one k c).d, .v (.str k), y6] := by
        have eCk : ebC [.v (.str w), .v (.int (l : Nat)), .v (.tuple (nats t)), .l st, .v (Ms.one k c).d, .v (.str k), y6] = .ok (decide (k = "chop")) [.v (.str w), .v (.int (l : Nat)), .v (.tuple (nats t)), .l st, .v (Ms.one k c).d, .v (.str k), y6] := eC
        have eBk : ebB [.v (.str w), .v (.int (l : Nat)), .v (.tuple (nats t)), .l st, .v (Ms.one k c).d, .v (.str k), y6] = .ok (decide (k = "behead")) [.v (.str w), .v (.int (l : Nat)), .v (.tuple (nats t)), .l st, .v (Ms.one k c).d, .v (.str k), y6] := eB
        have second : (dtAnd ebB ebB2) [.v (.str w), .v (.int (l : Nat)), .v (.tuple (nats t)), .l st, .v (Ms.one k c).d, .v (.str k), y6] = .ok (decide (k = "behead" ∧ t.take 1 = [c])) [.v (.str w), .v (.int (l : Nat)), .v (.tuple (nats t)), .l st, .v (Ms.one k c).d, .v (.str k), y6] := by
          by_cases hb : k = "behead"
          · rw [decide_eq_true hb] at eBk
            rw [and_t eBk eB2]
            simp [hb]
          · rw [decide_eq_false hb] at eBk
            rw [and_f eBk]
            simp [hb]
        by_cases hc : k = "chop"
        · rw [decide_eq_true hc] at eCk
          by_cases hd : t.drop (t.length - 1) = [c]
          · rw [decide_eq_true hd] at eC2
            rw [or_t (and_t eCk eC2)]
            simp [hc, hd]
          · rw [decide_eq_false hd] at eC2
            rw [or_ff (and_t eCk eC2) second]
            simp [hd]
        · rw [decide_eq_false hc] at eCk
          rw [or_ff (and_f eCk) second]
          simp [hc]
      by_cases hq : (k = "chop" ∧ t.drop (t.length - 1) = [c]) ∨ (k = "behead" ∧ t.take 1 = [c])
      · rw [decide_eq_true hq] at key
        have ed : edS w t (.one k c) = [(Ms.one k c).d] := by simp only [edS, hh, Bool.false_eq_true, if_false, hq, if_true]
        rw [ed] at hsl ⊢
        exact ⟨y6, h6, (sIf_f eH).trans ((sIf_t key).trans (ebA_ok (by rcases hsl with h | h; exact h; cases h)))⟩
      · rw [decide_eq_false hq] at key
        cases hn : cbB k with
        | true =>
          have ed : edS w t (.one k c) = [] := by simp only [edS, hh, Bool.false_eq_true, if_false, hq, hn, if_true]
          rw [ed, List.append_nil]
          have eNk : ebN [.v (.str w), .v (.int (l : Nat)), .v (.tuple (nats t)), .l st, .v (Ms.one k c).d, .v (.str k), y6] = .ok (!cbB k) [.v (.str w), .v (.int (l : Nat)), .v (.tuple (nats t)), .l st, .v (Ms.one k c).d, .v (.str k), y6] := eN
          rw [hn] at eNk
          exact ⟨y6, h6, (sIf_f eH).trans ((sIf_f key).trans (sIf_no eNk))⟩
        | false =>
          have ed : edS w t (.one k c) = [(Ms.one k c).d] := by simp only [edS, hh, Bool.false_eq_true, if_false, hq, hn]
          rw [ed] at hsl ⊢
          have eNk : ebN [.v (.str w), .v (.int (l : Nat)), .v (.tuple (nats t)), .l st, .v (Ms.one k c).d, .v (.str k), y6] = .ok (!cbB k) [.v (.str w), .v (.int (l : Nat)), .v (.tuple (nats t)), .l st, .v (Ms.one k c).d, .v (.str k), y6] := eN
          rw [hn] at eNk
          exact ⟨y6, h6, (sIf_f eH).trans ((sIf_f key).trans ((sIf_t eNk).trans (ebA_ok (by rcases hsl with h | h; exact h; cases h))))⟩
end
end K02

end
section
namespace K02
open PySem PySem.Spec PyProof.Rows L2 TW

/-- the edits that can be done at a text -/
def edits (w : Str) (X : List Ms) (t : List Nat) : List PyData := X.flatMap (edS w t)
theorem flat_len {w : Str} {t : List Nat} : ∀ X : List Ms, (X.flatMap (edS w t)).length ≤ X.length * (t.length + 1)
  | [] => by simp
  | x :: X => by
    have h1 := flat_len (w := w) (t := t) X
    have h2 := edS_len (w := w) (t := t) x
    rw [List.flatMap_cons, List.length_append, List.length_cons, Nat.succ_mul]
    omega
/-- what is known of a world's messages -/
structure WX (w : Str) (l : Nat) (X : List Ms) : Prop where
  hw : w ∈ wnames
  hl : l ∈ [1, 2, 3]
  e : msgs w (l : Nat) = X.map Ms.d
  ok : ∀ x ∈ X, msB w l x = true
  len : 1 ≤ X.length ∧ X.length ≤ 20
theorem lI {l : Nat} (h : l ∈ [1, 2, 3]) : ((l : Nat) : Int) ∈ [(1 : Int), 2, 3] := by
  simp only [List.mem_cons, List.not_mem_nil, or_false] at h ⊢
  omega
theorem wx {w : Str} {l : Nat} (hw : w ∈ wnames) (hl : l ∈ [1, 2, 3]) : ∃ X, WX w l X := by
  obtain ⟨X, e, ok⟩ := msgs_X hw hl
  obtain ⟨_, _, h1, h2⟩ := msgs_all hw (lI hl)
  rw [e, List.length_map] at h1 h2
  exact ⟨X, hw, hl, e, ok, h1, h2⟩
section
variable {w : Str} {l : Nat} {t : List Nat} {X : List Ms}
theorem edFor_ok (g : WX w l X) (ht : t.length ≤ 100) : ∃ y4 y5 y6, edFor [.v (.str w), .v (.int (l : Nat)), .v (.tuple (nats t)), .l [], .un, .un, .un] = .ok .nx [.v (.str w), .v (.int (l : Nat)), .v (.tuple (nats t)), .l (edits w X t), y4, y5, y6] := by
  obtain ⟨_, ⟨out, em⟩, _⟩ := msgs_all g.hw (lI g.hl)
  rw [g.e] at em
  obtain ⟨r', q, y4, y5, y6, h4, h5, h6, rfl⟩ := for_inv (T := gN 4) (b := edBody) (P := fun j r => ∃ y4 y5 y6, nio y4 = true ∧ nio y5 = true ∧ nio y6 = true ∧ r = [.v (.str w), .v (.int (l : Nat)), .v (.tuple (nats t)), .l ((X.take j).flatMap (edS w t)), y4, y5, y6]) (ds := X.map Ms.d) (k := 0) (r := [.v (.str w), .v (.int (l : Nat)), .v (.tuple (nats t)), .l [], .un, .un, .un]) ⟨.un, .un, .un, rfl, rfl, rfl, rfl⟩
    (fun j d r hj hr => by
      obtain ⟨y4, y5, y6, h4, h5, h6, rfl⟩ := hr
      rw [List.getElem?_map] at hj
      cases hx : X[j]? with
      | none => rw [hx] at hj; cases hj
      | some x =>
        rw [hx] at hj
        cases hj
        rw [Nat.zero_add]
        have hjl := (List.getElem?_eq_some_iff.mp hx).1
        have b1 := flat_len (w := w) (t := t) (X.take j)
        have b2 := edS_len (w := w) (t := t) x
        have b3 : (X.take j).length * (t.length + 1) ≤ 20 * 101 := Nat.mul_le_mul (by rw [List.length_take]; have := g.len.2; omega) (by omega)
        obtain ⟨z, hz, e⟩ := edBody_ok (l := l) (st := (X.take j).flatMap (edS w t)) (x := x) g.hw (g.ok x (List.mem_of_getElem? hx)) ht (by omega) h5 h6
        have et : X.take (j + 1) = X.take j ++ [x] := by rw [List.take_succ, hx]; rfl
        have ef : (X.take (j + 1)).flatMap (edS w t) = (X.take j).flatMap (edS w t) ++ edS w t x := by rw [et, List.flatMap_append]; simp
        refine ⟨[.v (.str w), .v (.int (l : Nat)), .v (.tuple (nats t)), .l ((X.take j).flatMap (edS w t)), .v x.d, y5, y6], _, by simp [gN_eq, h4], .inl e, .v x.d, .v (.str x.k), z, rfl, rfl, hz, ?_⟩
        rw [ef])
  refine ⟨y4, y5, y6, ?_⟩
  have ei : (iSeq (dCall (D__law_messages) (aV (dVar 0) (aV (dVar 1) aNil)))) [.v (.str w), .v (.int (l : Nat)), .v (.tuple (nats t)), .l [], .un, .un, .un] = .ok (X.map Ms.d) [.v (.str w), .v (.int (l : Nat)), .v (.tuple (nats t)), .l [], .un, .un, .un] := by
    simp [fnOf, sSeq, sSetX, xV, xL, dCall, aV, aIo, aNil, dVar, M.bind, Res.bind, M.ret, M.opt, reso, nodupB, ioIx, argsSl, backSl, tSetX, lLst, aBind, allV, dC, sizeLine_eq, sFor, iSeq, items, sRet, sIf, dtOr, dtNot, dtAnd, asB, dIsi, dIsi2, isB, tyN, dBin, two, oV, oN, dFx, xFn, aO, resA, fLen, fNe_int, fEq_int, fNe_bool, fEq_bool, fEq_none, fEq_nil, fLe, fGt, fGe, fCmp, dFz, fTuple, sNil, sDrop, dChain, dAnd, dNot, Sl.own, Sl.put, dGen, genB, lLc, lcB, iEnZip, TW.iEnum, gT, gLen, gsC, gsN, sAsg, tAsgG, gN_eq, tSet_eq, tSetL_eq, noIo_eq, wipeR, nio_un, nio_v, nio_l, fInt, fSub, fAdd, xBin, fIx, xSl, pAt, pNo, fSl, dIf, fIs, isNone, unwipe_eq, nio_wp, sh_int, sh_bool, sh_none, eqv_int, eqv_bool, eqv_none, em]
  unfold edFor
  rw [sFor_ok ei, q, List.length_map, Nat.zero_add, List.take_of_length_le (Nat.le_refl _)]
  rfl
theorem law_edits (g : WX w l X) (ht : t.length ≤ 100) : ∃ out, D__law_edits [.v (.str w), .v (.int (l : Nat)), .v (.tuple (nats t))] = .ok (.list (edits w X t)) out := by
  obtain ⟨y4, y5, y6, e⟩ := edFor_ok g ht
  rw [law_edits_eq]
  generalize edFor = F at e
  have e1 : (sSetX 3 (xL (lLst aNil))) [.v (.str w), .v (.int (l : Nat)), .v (.tuple (nats t)), .un, .un, .un, .un] = .ok .nx [.v (.str w), .v (.int (l : Nat)), .v (.tuple (nats t)), .l [], .un, .un, .un] := by simp [fnOf, sSeq, sSetX, xV, xL, dCall, aV, aIo, aNil, dVar, M.bind, Res.bind, M.ret, M.opt, reso, nodupB, ioIx, argsSl, backSl, tSetX, lLst, aBind, allV, dC, sizeLine_eq, sFor, iSeq, items, sRet, sIf, dtOr, dtNot, dtAnd, asB, dIsi, dIsi2, isB, tyN, dBin, two, oV, oN, dFx, xFn, aO, resA, fLen, fNe_int, fEq_int, fNe_bool, fEq_bool, fEq_none, fEq_nil, fLe, fGt, fGe, fCmp, dFz, fTuple, sNil, sDrop, dChain, dAnd, dNot, Sl.own, Sl.put, dGen, genB, lLc, lcB, iEnZip, TW.iEnum, gT, gLen, gsC, gsN, sAsg, tAsgG, gN_eq, tSet_eq, tSetL_eq, noIo_eq, wipeR, nio_un, nio_v, nio_l, fInt, fSub, fAdd, xBin, fIx, xSl, pAt, pNo, fSl, dIf, fIs, isNone, unwipe_eq, nio_wp, sh_int, sh_bool, sh_none, eqv_int, eqv_bool, eqv_none]
  exact ⟨_, fnOf_rt rfl ((sSeq_nx e1).trans ((sSeq_nx e).trans (sRet_ok (by simp [dVar]; rfl))))⟩
end
end K02

end
section
namespace K02
open PySem PySem.Spec PyProof.Rows L2 TW

def i1t : M Bool := dtOr (dtNot ((dIsi "tuple" (oN 3)).bind asB)) (dtNot (dTr (dVar 3)))
def i2 : M Fl := sSetX 4 (xIf ((dBin (fIn false) (oN 0) (oV (dC con_HIDDEN))).bind asB) (xSl (oN 3) pNo (pAt (dC (.int 2)))) (xV (dVar 3)))
def iElt : M PyData := dCall (D_is_like 6) (aV (dVar 4) (aV (dVar 5) aNil))
def iIt : M (List PyData) := iSeq (dCall (D_all_messages) (aV (dVar 0) (aV (dVar 1) aNil)))
def iG : M PyData := dGen true [5] iIt (gN 5) tYesD iElt
def i4 : M Fl := sSetX 6 (xV (dBin fIx (oN 3) (oV (dC (.int 0)))))
def iH : M Bool := (dBin (fIn false) (oN 0) (oV (dC con_HIDDEN))).bind asB
def i5l : M Bool := (dBin fNe (oV (dFx (xFn fLen (aO (oN 3) aNil)))) (oV (dC (.int 3)))).bind asB
def i5n : M Bool := (dCall (D_is_number) (aV (dBin fIx (oN 3) (oV (dC (.int 2)))) (aV (dC (.int 0)) (aV (dFx (xFn fLen (aO (oN 2) aNil))) aNil)))).bind asB
def iK (s : Str) : M Bool := (dBin fEq (oN 6) (oV (dC (.str s)))).bind asB
def i5r : M PyData := dAnd (dBin fLt (oV (dBin fIx (oN 3) (oV (dC (.int 2))))) (oV (dFx (xFn fLen (aO (oN 2) aNil))))) (dBin fEq (oV (dBin fIx (oN 2) (oV (dBin fIx (oN 3) (oV (dC (.int 2))))))) (oV (dBin fIx (oN 3) (oV (dC (.int 1))))))
def i6r : M PyData := dAnd (dFx (xFn fBool (aO (oN 2) aNil))) (dBin fEq (oV (dBin fIx (oN 2) (oV (dNeg (dC (.int 1)))))) (oV (dBin fIx (oN 3) (oV (dC (.int 1))))))
def i7r : M PyData := dAnd (dFx (xFn fBool (aO (oN 2) aNil))) (dBin fEq (oV (dBin fIx (oN 2) (oV (dC (.int 0))))) (oV (dBin fIx (oN 3) (oV (dC (.int 1))))))
def i8r : M PyData := dOr (dBin fEq (oN 6) (oV (dC (.str "turn")))) (dBin fLt (oV (dFx (xFn fLen (aO (oN 2) aNil)))) (oV (dC con_MOST_TEXT)))
def iF : M Fl := sRet (dC (.bool false))
def i678 : M Fl := sSeq (sIf (iK "chop") (sRet i6r) sNil) (sSeq (sIf (iK "behead") (sRet i7r) sNil) (sRet i8r))
def i5 : M Fl := sSeq (sIf (dtOr i5l (dtNot i5n)) iF sNil) (sIf (iK "take") (sRet i5r) sNil)
theorem is_edit_eq : D_is_edit = fnOf 4 7 (sSeq (sIf i1t iF sNil) (sSeq i2 (sSeq (sIf (dtNot (iG.bind asB)) iF sNil) (sSeq i4 (sSeq (sIf iH i5 sNil) i678))))) := rfl
theorem sh_take {xs : List PyData} (n : Nat) (h : SeqAt.shaped (.tuple xs) = true) : SeqAt.shaped (.tuple (xs.take n)) = true := by
  obtain ⟨a, b⟩ := Bool.and_eq_true_iff.mp h
  have b := of_decide_eq_true b
  have key : ∀ (xs : List PyData) (n : Nat), PyData.canLayAll0 xs = true → PyData.canLayAll0 (xs.take n) = true ∧ PyData.depthAll (xs.take n) ≤ PyData.depthAll xs := by
    intro xs
    induction xs with
    | nil => intro n h; simp [PyData.canLayAll0]
    | cons x xs ih =>
      intro n h
      simp only [PyData.canLayAll0, Bool.and_eq_true] at h
      cases n with
      | zero => simp [PyData.canLayAll0, PyData.depthAll]
      | succ n =>
        obtain ⟨h1, h2⟩ := ih n h.2
        simp only [List.take_succ_cons, PyData.canLayAll0, PyData.depthAll, h.1, h1, Bool.and_self, true_and]
        omega
  obtain ⟨k1, k2⟩ := key xs n (by simpa [PyData.canLay0] using a)
  refine Bool.and_eq_true_iff.mpr ⟨by simpa [PyData.canLay0] using k1, decide_eq_true ?_⟩
  simp only [PyData.depth] at b ⊢
  omega
theorem ms_sh {w : Str} {l : Nat} {X : List Ms} (g : WX w l X) : ∀ x ∈ X, SeqAt.shaped x.d = true := fun x hx => by
  have h := (all_ok w g.hw (l : Nat) (lI g.hl)).2
  unfold okX at h
  rw [List.all_eq_true] at h
  have q := h x.d (by rw [g.e]; exact List.mem_map_of_mem hx)
  simp only [Bool.and_eq_true] at q
  exact q.1.1
theorem ms_pl (x : Ms) : isPl 6 x.d := by
  cases x with
  | one k c => simp [Ms.d, isPl]
  | perm ps =>
    have : ∀ y ∈ nats ps, isPl 4 y := fun y hy => by
      obtain ⟨i, rfl⟩ := nats_int y hy
      trivial
    simp [Ms.d, isPl]
    exact this
  | turn => simp [Ms.d, isPl]
section
variable {w : Str} {l : Nat} {t : List Nat} {X : List Ms} {one : PyData} {y4 y5 y6 : Sl}
def shown (w : Str) (os : List PyData) : PyData := if hid w then .tuple (os.take 2) else .tuple os
theorem i1_f (h : ∀ o os, one ≠ .tuple (o :: os)) (hs : SeqAt.shaped one = true) : i1t [.v (.str w), .v (.int (l : Nat)), .v (.tuple (nats t)), .v one, y4, y5, y6] = .ok true [.v (.str w), .v (.int (l : Nat)), .v (.tuple (nats t)), .v one, y4, y5, y6] := by
  cases one with
  | tuple xs =>
    cases xs with
    | nil => simp [i1t, fnOf, sSeq, sSetX, xV, xL, dCall, aV, aIo, aNil, dVar, M.bind, Res.bind, M.ret, M.opt, reso, nodupB, ioIx, argsSl, backSl, tSetX, lLst, aBind, allV, dC, sizeLine_eq, sFor, iSeq, items, sRet, sIf, dtOr, dtNot, dtAnd, asB, dIsi, dIsi2, isB, tyN, dBin, two, oV, oN, dFx, xFn, aO, resA, fLen, fNe_int, fEq_int, fNe_bool, fEq_bool, fEq_none, fEq_nil, fLe, fGt, fGe, fCmp, dFz, fTuple, sNil, sDrop, dChain, dAnd, dNot, Sl.own, Sl.put, dGen, genB, lLc, lcB, iEnZip, TW.iEnum, gT, gLen, gsC, gsN, sAsg, tAsgG, gN_eq, tSet_eq, tSetL_eq, noIo_eq, wipeR, nio_un, nio_v, nio_l, fInt, fSub, fAdd, xBin, fIx, xSl, pAt, pNo, fSl, dIf, fIs, isNone, unwipe_eq, nio_wp, sh_int, sh_bool, sh_none, eqv_int, eqv_bool, eqv_none, dTr, truthy?]
    | cons o os => exact absurd rfl (h o os)
  | dict _ => simp [SeqAt.shaped, PyData.canLay0] at hs
  | none => simp [i1t, fnOf, sSeq, sSetX, xV, xL, dCall, aV, aIo, aNil, dVar, M.bind, Res.bind, M.ret, M.opt, reso, nodupB, ioIx, argsSl, backSl, tSetX, lLst, aBind, allV, dC, sizeLine_eq, sFor, iSeq, items, sRet, sIf, dtOr, dtNot, dtAnd, asB, dIsi, dIsi2, isB, tyN, dBin, two, oV, oN, dFx, xFn, aO, resA, fLen, fNe_int, fEq_int, fNe_bool, fEq_bool, fEq_none, fEq_nil, fLe, fGt, fGe, fCmp, dFz, fTuple, sNil, sDrop, dChain, dAnd, dNot, Sl.own, Sl.put, dGen, genB, lLc, lcB, iEnZip, TW.iEnum, gT, gLen, gsC, gsN, sAsg, tAsgG, gN_eq, tSet_eq, tSetL_eq, noIo_eq, wipeR, nio_un, nio_v, nio_l, fInt, fSub, fAdd, xBin, fIx, xSl, pAt, pNo, fSl, dIf, fIs, isNone, unwipe_eq, nio_wp, sh_int, sh_bool, sh_none, eqv_int, eqv_bool, eqv_none]
  | bool _ => simp [i1t, fnOf, sSeq, sSetX, xV, xL, dCall, aV, aIo, aNil, dVar, M.bind, Res.bind, M.ret, M.opt, reso, nodupB, ioIx, argsSl, backSl, tSetX, lLst, aBind, allV, dC, sizeLine_eq, sFor, iSeq, items, sRet, sIf, dtOr, dtNot, dtAnd, asB, dIsi, dIsi2, isB, tyN, dBin, two, oV, oN, dFx, xFn, aO, resA, fLen, fNe_int, fEq_int, fNe_bool, fEq_bool, fEq_none, fEq_nil, fLe, fGt, fGe, fCmp, dFz, fTuple, sNil, sDrop, dChain, dAnd, dNot, Sl.own, Sl.put, dGen, genB, lLc, lcB, iEnZip, TW.iEnum, gT, gLen, gsC, gsN, sAsg, tAsgG, gN_eq, tSet_eq, tSetL_eq, noIo_eq, wipeR, nio_un, nio_v, nio_l, fInt, fSub, fAdd, xBin, fIx, xSl, pAt, pNo, fSl, dIf, fIs, isNone, unwipe_eq, nio_wp, sh_int, sh_bool, sh_none, eqv_int, eqv_bool, eqv_none]
  | int _ => simp [i1t, fnOf, sSeq, sSetX, xV, xL, dCall, aV, aIo, aNil, dVar, M.bind, Res.bind, M.ret, M.opt, reso, nodupB, ioIx, argsSl, backSl, tSetX, lLst, aBind, allV, dC, sizeLine_eq, sFor, iSeq, items, sRet, sIf, dtOr, dtNot, dtAnd, asB, dIsi, dIsi2, isB, tyN, dBin, two, oV, oN, dFx, xFn, aO, resA, fLen, fNe_int, fEq_int, fNe_bool, fEq_bool, fEq_none, fEq_nil, fLe, fGt, fGe, fCmp, dFz, fTuple, sNil, sDrop, dChain, dAnd, dNot, Sl.own, Sl.put, dGen, genB, lLc, lcB, iEnZip, TW.iEnum, gT, gLen, gsC, gsN, sAsg, tAsgG, gN_eq, tSet_eq, tSetL_eq, noIo_eq, wipeR, nio_un, nio_v, nio_l, fInt, fSub, fAdd, xBin, fIx, xSl, pAt, pNo, fSl, dIf, fIs, isNone, unwipe_eq, nio_wp, sh_int, sh_bool, sh_none, eqv_int, eqv_bool, eqv_none]
  | str _ => simp [i1t, fnOf, sSeq, sSetX, xV, xL, dCall, aV, aIo, aNil, dVar, M.bind, Res.bind, M.ret, M.opt, reso, nodupB, ioIx, argsSl, backSl, tSetX, lLst, aBind, allV, dC, sizeLine_eq, sFor, iSeq, items, sRet, sIf, dtOr, dtNot, dtAnd, asB, dIsi, dIsi2, isB, tyN, dBin, two, oV, oN, dFx, xFn, aO, resA, fLen, fNe_int, fEq_int, fNe_bool, fEq_bool, fEq_none, fEq_nil, fLe, fGt, fGe, fCmp, dFz, fTuple, sNil, sDrop, dChain, dAnd, dNot, Sl.own, Sl.put, dGen, genB, lLc, lcB, iEnZip, TW.iEnum, gT, gLen, gsC, gsN, sAsg, tAsgG, gN_eq, tSet_eq, tSetL_eq, noIo_eq, wipeR, nio_un, nio_v, nio_l, fInt, fSub, fAdd, xBin, fIx, xSl, pAt, pNo, fSl, dIf, fIs, isNone, unwipe_eq, nio_wp, sh_int, sh_bool, sh_none, eqv_int, eqv_bool, eqv_none]
  | list _ => simp [i1t, fnOf, sSeq, sSetX, xV, xL, dCall, aV, aIo, aNil, dVar, M.bind, Res.bind, M.ret, M.opt, reso, nodupB, ioIx, argsSl, backSl, tSetX, lLst, aBind, allV, dC, sizeLine_eq, sFor, iSeq, items, sRet, sIf, dtOr, dtNot, dtAnd, asB, dIsi, dIsi2, isB, tyN, dBin, two, oV, oN, dFx, xFn, aO, resA, fLen, fNe_int, fEq_int, fNe_bool, fEq_bool, fEq_none, fEq_nil, fLe, fGt, fGe, fCmp, dFz, fTuple, sNil, sDrop, dChain, dAnd, dNot, Sl.own, Sl.put, dGen, genB, lLc, lcB, iEnZip, TW.iEnum, gT, gLen, gsC, gsN, sAsg, tAsgG, gN_eq, tSet_eq, tSetL_eq, noIo_eq, wipeR, nio_un, nio_v, nio_l, fInt, fSub, fAdd, xBin, fIx, xSl, pAt, pNo, fSl, dIf, fIs, isNone, unwipe_eq, nio_wp, sh_int, sh_bool, sh_none, eqv_int, eqv_bool, eqv_none]
theorem i1_t {o : PyData} {os : List PyData} : i1t [.v (.str w), .v (.int (l : Nat)), .v (.tuple (nats t)), .v (.tuple (o :: os)), y4, y5, y6] = .ok false [.v (.str w), .v (.int (l : Nat)), .v (.tuple (nats t)), .v (.tuple (o :: os)), y4, y5, y6] := by
  simp [i1t, fnOf, sSeq, sSetX, xV, xL, dCall, aV, aIo, aNil, dVar, M.bind, Res.bind, M.ret, M.opt, reso, nodupB, ioIx, argsSl, backSl, tSetX, lLst, aBind, allV, dC, sizeLine_eq, sFor, iSeq, items, sRet, sIf, dtOr, dtNot, dtAnd, asB, dIsi, dIsi2, isB, tyN, dBin, two, oV, oN, dFx, xFn, aO, resA, fLen, fNe_int, fEq_int, fNe_bool, fEq_bool, fEq_none, fEq_nil, fLe, fGt, fGe, fCmp, dFz, fTuple, sNil, sDrop, dChain, dAnd, dNot, Sl.own, Sl.put, dGen, genB, lLc, lcB, iEnZip, TW.iEnum, gT, gLen, gsC, gsN, sAsg, tAsgG, gN_eq, tSet_eq, tSetL_eq, noIo_eq, wipeR, nio_un, nio_v, nio_l, fInt, fSub, fAdd, xBin, fIx, xSl, pAt, pNo, fSl, dIf, fIs, isNone, unwipe_eq, nio_wp, sh_int, sh_bool, sh_none, eqv_int, eqv_bool, eqv_none, dTr, truthy?]
theorem i2_ok {os : List PyData} (hw : w ∈ wnames) (h4 : nio y4 = true) : i2 [.v (.str w), .v (.int (l : Nat)), .v (.tuple (nats t)), .v (.tuple os), y4, y5, y6] = .ok .nx [.v (.str w), .v (.int (l : Nat)), .v (.tuple (nats t)), .v (.tuple os), .v (shown w os), y5, y6] := by
  have e := hidC hw
  have c1 : TW.cutD os none (some 2) = os.take 2 := by
    unfold TW.cutD
    have e : HT.sIx os.length os.length (some 2) = min 2 os.length := HT.sIx_nat os.length os.length 2
    rw [e, HT.sIx_none, List.drop_zero, Nat.sub_zero]
    by_cases hl : 2 ≤ os.length
    · rw [Nat.min_eq_left hl]
    · rw [Nat.min_eq_right (by omega), List.take_of_length_le (Nat.le_refl _), List.take_of_length_le (by omega)]
  cases hh : hid w with
  | true =>
    rw [hh] at e
    simp [i2, xIf, fnOf, sSeq, sSetX, xV, xL, dCall, aV, aIo, aNil, dVar, M.bind, Res.bind, M.ret, M.opt, reso, nodupB, ioIx, argsSl, backSl, tSetX, lLst, aBind, allV, dC, sizeLine_eq, sFor, iSeq, items, sRet, sIf, dtOr, dtNot, dtAnd, asB, dIsi, dIsi2, isB, tyN, dBin, two, oV, oN, dFx, xFn, aO, resA, fLen, fNe_int, fEq_int, fNe_bool, fEq_bool, fEq_none, fEq_nil, fLe, fGt, fGe, fCmp, dFz, fTuple, sNil, sDrop, dChain, dAnd, dNot, Sl.own, Sl.put, dGen, genB, lLc, lcB, iEnZip, TW.iEnum, gT, gLen, gsC, gsN, sAsg, tAsgG, gN_eq, tSet_eq, tSetL_eq, noIo_eq, wipeR, nio_un, nio_v, nio_l, fInt, fSub, fAdd, xBin, fIx, xSl, pAt, pNo, fSl, dIf, fIs, isNone, unwipe_eq, nio_wp, sh_int, sh_bool, sh_none, eqv_int, eqv_bool, eqv_none, e, shown, hh, h4, c1]
  | false =>
    rw [hh] at e
    simp [i2, xIf, fnOf, sSeq, sSetX, xV, xL, dCall, aV, aIo, aNil, dVar, M.bind, Res.bind, M.ret, M.opt, reso, nodupB, ioIx, argsSl, backSl, tSetX, lLst, aBind, allV, dC, sizeLine_eq, sFor, iSeq, items, sRet, sIf, dtOr, dtNot, dtAnd, asB, dIsi, dIsi2, isB, tyN, dBin, two, oV, oN, dFx, xFn, aO, resA, fLen, fNe_int, fEq_int, fNe_bool, fEq_bool, fEq_none, fEq_nil, fLe, fGt, fGe, fCmp, dFz, fTuple, sNil, sDrop, dChain, dAnd, dNot, Sl.own, Sl.put, dGen, genB, lLc, lcB, iEnZip, TW.iEnum, gT, gLen, gsC, gsN, sAsg, tAsgG, gN_eq, tSet_eq, tSetL_eq, noIo_eq, wipeR, nio_un, nio_v, nio_l, fInt, fSub, fAdd, xBin, fIx, xSl, pAt, pNo, fSl, dIf, fIs, isNone, unwipe_eq, nio_wp, sh_int, sh_bool, sh_none, eqv_int, eqv_bool, eqv_none, e, shown, hh, h4]
theorem iG_ok {os : List PyData} (g : WX w l X) (hs : SeqAt.shaped (.tuple os) = true) (h5 : nio y5 = true) : ∃ z, nio z = true ∧ iG [.v (.str w), .v (.int (l : Nat)), .v (.tuple (nats t)), .v (.tuple os), .v (shown w os), y5, y6] = .ok (.bool (X.any fun x => sameD (shown w os) x.d)) [.v (.str w), .v (.int (l : Nat)), .v (.tuple (nats t)), .v (.tuple os), .v (shown w os), z, y6] := by
  have sh : SeqAt.shaped (shown w os) = true := by
    unfold shown
    split
    · exact sh_take 2 hs
    · exact hs
  obtain ⟨⟨out, em⟩, _⟩ := msgs_all g.hw (lI g.hl)
  rw [g.e] at em
  have ei : iIt [.v (.str w), .v (.int (l : Nat)), .v (.tuple (nats t)), .v (.tuple os), .v (shown w os), y5, y6] = .ok (X.map Ms.d) [.v (.str w), .v (.int (l : Nat)), .v (.tuple (nats t)), .v (.tuple os), .v (shown w os), y5, y6] := by
    simp [iIt, fnOf, sSeq, sSetX, xV, xL, dCall, aV, aIo, aNil, dVar, M.bind, Res.bind, M.ret, M.opt, reso, nodupB, ioIx, argsSl, backSl, tSetX, lLst, aBind, allV, dC, sizeLine_eq, sFor, iSeq, items, sRet, sIf, dtOr, dtNot, dtAnd, asB, dIsi, dIsi2, isB, tyN, dBin, two, oV, oN, dFx, xFn, aO, resA, fLen, fNe_int, fEq_int, fNe_bool, fEq_bool, fEq_none, fEq_nil, fLe, fGt, fGe, fCmp, dFz, fTuple, sNil, sDrop, dChain, dAnd, dNot, Sl.own, Sl.put, dGen, genB, lLc, lcB, iEnZip, TW.iEnum, gT, gLen, gsC, gsN, sAsg, tAsgG, gN_eq, tSet_eq, tSetL_eq, noIo_eq, wipeR, nio_un, nio_v, nio_l, fInt, fSub, fAdd, xBin, fIx, xSl, pAt, pNo, fSl, dIf, fIs, isNone, unwipe_eq, nio_wp, sh_int, sh_bool, sh_none, eqv_int, eqv_bool, eqv_none, em]
  obtain ⟨r', q, y, hy, rfl⟩ := gen_any (own := [5]) (T := gN 5) (tt := tYesD) (elt := iElt) (f := fun d => sameD (shown w os) d) (P := fun r => ∃ y, nio y = true ∧ r = [.v (.str w), .v (.int (l : Nat)), .v (.tuple (nats t)), .v (.tuple os), .v (shown w os), y, y6]) (ds := X.map Ms.d) (r := [.v (.str w), .v (.int (l : Nat)), .v (.tuple (nats t)), .v (.tuple os), .v (shown w os), y5, y6]) ⟨y5, h5, rfl⟩
    (fun d hd r hr => by
      obtain ⟨y, hy, rfl⟩ := hr
      obtain ⟨x, hx, rfl⟩ := List.mem_map.mp hd
      obtain ⟨out, e⟩ := like_eq 6 (shown w os) x.d (ms_pl x) sh (ms_sh g x hx)
      have ee : iElt [.v (.str w), .v (.int (l : Nat)), .v (.tuple (nats t)), .v (.tuple os), .v (shown w os), .v x.d, y6] = .ok (.bool (sameD (shown w os) x.d)) [.v (.str w), .v (.int (l : Nat)), .v (.tuple (nats t)), .v (.tuple os), .v (shown w os), .v x.d, y6] := by
        unfold iElt
        generalize D_is_like 6 = F at e ⊢
        simp [fnOf, sSeq, sSetX, xV, xL, dCall, aV, aIo, aNil, dVar, M.bind, Res.bind, M.ret, M.opt, reso, nodupB, ioIx, argsSl, backSl, tSetX, lLst, aBind, allV, dC, sizeLine_eq, sFor, iSeq, items, sRet, sIf, dtOr, dtNot, dtAnd, asB, dIsi, dIsi2, isB, tyN, dBin, two, oV, oN, dFx, xFn, aO, resA, fLen, fNe_int, fEq_int, fNe_bool, fEq_bool, fEq_none, fEq_nil, fLe, fGt, fGe, fCmp, dFz, fTuple, sNil, sDrop, dChain, dAnd, dNot, Sl.own, Sl.put, dGen, genB, lLc, lcB, iEnZip, TW.iEnum, gT, gLen, gsC, gsN, sAsg, tAsgG, gN_eq, tSet_eq, tSetL_eq, noIo_eq, wipeR, nio_un, nio_v, nio_l, fInt, fSub, fAdd, xBin, fIx, xSl, pAt, pNo, fSl, dIf, fIs, isNone, unwipe_eq, nio_wp, sh_int, sh_bool, sh_none, eqv_int, eqv_bool, eqv_none, e]
      exact ⟨by simp [noIo_eq, hy], [.v (.str w), .v (.int (l : Nat)), .v (.tuple (nats t)), .v (.tuple os), .v (shown w os), .v x.d, y6], [.v (.str w), .v (.int (l : Nat)), .v (.tuple (nats t)), .v (.tuple os), .v (shown w os), .v x.d, y6], [.v (.str w), .v (.int (l : Nat)), .v (.tuple (nats t)), .v (.tuple os), .v (shown w os), .v x.d, y6], by simp [gN_eq, wipeR, nio], rfl, ee, .v x.d, rfl, rfl⟩)
  have hn : noIo [.v (.str w), .v (.int (l : Nat)), .v (.tuple (nats t)), .v (.tuple os), .v (shown w os), y, y6] [5] = true := by simp [noIo_eq, hy]
  refine ⟨wp y5, nio_wp _, ?_⟩
  unfold iG
  rw [dGen_ok ei, genB_ok q hn, List.any_map]
  simp [unwipe_eq, Function.comp_def]
theorem i4_ok {o : PyData} {os : List PyData} (h6 : nio y6 = true) : i4 [.v (.str w), .v (.int (l : Nat)), .v (.tuple (nats t)), .v (.tuple (o :: os)), y4, y5, y6] = .ok .nx [.v (.str w), .v (.int (l : Nat)), .v (.tuple (nats t)), .v (.tuple (o :: os)), y4, y5, .v o] := by
  simp [i4, fnOf, sSeq, sSetX, xV, xL, dCall, aV, aIo, aNil, dVar, M.bind, Res.bind, M.ret, M.opt, reso, nodupB, ioIx, argsSl, backSl, tSetX, lLst, aBind, allV, dC, sizeLine_eq, sFor, iSeq, items, sRet, sIf, dtOr, dtNot, dtAnd, asB, dIsi, dIsi2, isB, tyN, dBin, two, oV, oN, dFx, xFn, aO, resA, fLen, fNe_int, fEq_int, fNe_bool, fEq_bool, fEq_none, fEq_nil, fLe, fGt, fGe, fCmp, dFz, fTuple, sNil, sDrop, dChain, dAnd, dNot, Sl.own, Sl.put, dGen, genB, lLc, lcB, iEnZip, TW.iEnum, gT, gLen, gsC, gsN, sAsg, tAsgG, gN_eq, tSet_eq, tSetL_eq, noIo_eq, wipeR, nio_un, nio_v, nio_l, fInt, fSub, fAdd, xBin, fIx, xSl, pAt, pNo, fSl, dIf, fIs, isNone, unwipe_eq, nio_wp, sh_int, sh_bool, sh_none, eqv_int, eqv_bool, eqv_none, atI0, h6]
theorem iH_ok (hw : w ∈ wnames) : iH [.v (.str w), .v (.int (l : Nat)), .v (.tuple (nats t)), .v one, y4, y5, y6] = .ok (hid w) [.v (.str w), .v (.int (l : Nat)), .v (.tuple (nats t)), .v one, y4, y5, y6] := by
  have e := hidC hw
  simp [iH, fnOf, sSeq, sSetX, xV, xL, dCall, aV, aIo, aNil, dVar, M.bind, Res.bind, M.ret, M.opt, reso, nodupB, ioIx, argsSl, backSl, tSetX, lLst, aBind, allV, dC, sizeLine_eq, sFor, iSeq, items, sRet, sIf, dtOr, dtNot, dtAnd, asB, dIsi, dIsi2, isB, tyN, dBin, two, oV, oN, dFx, xFn, aO, resA, fLen, fNe_int, fEq_int, fNe_bool, fEq_bool, fEq_none, fEq_nil, fLe, fGt, fGe, fCmp, dFz, fTuple, sNil, sDrop, dChain, dAnd, dNot, Sl.own, Sl.put, dGen, genB, lLc, lcB, iEnZip, TW.iEnum, gT, gLen, gsC, gsN, sAsg, tAsgG, gN_eq, tSet_eq, tSetL_eq, noIo_eq, wipeR, nio_un, nio_v, nio_l, fInt, fSub, fAdd, xBin, fIx, xSl, pAt, pNo, fSl, dIf, fIs, isNone, unwipe_eq, nio_wp, sh_int, sh_bool, sh_none, eqv_int, eqv_bool, eqv_none, e]
theorem iK_ok {k s : Str} (hk : k ∈ kk6) (hs : s ∈ kk6) : iK s [.v (.str w), .v (.int (l : Nat)), .v (.tuple (nats t)), .v one, y4, y5, .v (.str k)] = .ok (decide (k = s)) [.v (.str w), .v (.int (l : Nat)), .v (.tuple (nats t)), .v one, y4, y5, .v (.str k)] := by
  have e := eqK hk hs
  simp [iK, fnOf, sSeq, sSetX, xV, xL, dCall, aV, aIo, aNil, dVar, M.bind, Res.bind, M.ret, M.opt, reso, nodupB, ioIx, argsSl, backSl, tSetX, lLst, aBind, allV, dC, sizeLine_eq, sFor, iSeq, items, sRet, sIf, dtOr, dtNot, dtAnd, asB, dIsi, dIsi2, isB, tyN, dBin, two, oV, oN, dFx, xFn, aO, resA, fLen, fNe_int, fEq_int, fNe_bool, fEq_bool, fEq_none, fEq_nil, fLe, fGt, fGe, fCmp, dFz, fTuple, sNil, sDrop, dChain, dAnd, dNot, Sl.own, Sl.put, dGen, genB, lLc, lcB, iEnZip, TW.iEnum, gT, gLen, gsC, gsN, sAsg, tAsgG, gN_eq, tSet_eq, tSetL_eq, noIo_eq, wipeR, nio_un, nio_v, nio_l, fInt, fSub, fAdd, xBin, fIx, xSl, pAt, pNo, fSl, dIf, fIs, isNone, unwipe_eq, nio_wp, sh_int, sh_bool, sh_none, eqv_int, eqv_bool, eqv_none, e]
theorem i5l_ok {os : List PyData} : i5l [.v (.str w), .v (.int (l : Nat)), .v (.tuple (nats t)), .v (.tuple os), y4, y5, y6] = .ok (!decide (os.length = 3)) [.v (.str w), .v (.int (l : Nat)), .v (.tuple (nats t)), .v (.tuple os), y4, y5, y6] := by
  simp [i5l, fnOf, sSeq, sSetX, xV, xL, dCall, aV, aIo, aNil, dVar, M.bind, Res.bind, M.ret, M.opt, reso, nodupB, ioIx, argsSl, backSl, tSetX, lLst, aBind, allV, dC, sizeLine_eq, sFor, iSeq, items, sRet, sIf, dtOr, dtNot, dtAnd, asB, dIsi, dIsi2, isB, tyN, dBin, two, oV, oN, dFx, xFn, aO, resA, fLen, fNe_int, fEq_int, fNe_bool, fEq_bool, fEq_none, fEq_nil, fLe, fGt, fGe, fCmp, dFz, fTuple, sNil, sDrop, dChain, dAnd, dNot, Sl.own, Sl.put, dGen, genB, lLc, lcB, iEnZip, TW.iEnum, gT, gLen, gsC, gsN, sAsg, tAsgG, gN_eq, tSet_eq, tSetL_eq, noIo_eq, wipeR, nio_un, nio_v, nio_l, fInt, fSub, fAdd, xBin, fIx, xSl, pAt, pNo, fSl, dIf, fIs, isNone, unwipe_eq, nio_wp, sh_int, sh_bool, sh_none, eqv_int, eqv_bool, eqv_none]
  omega
/-- a number from 0 to n -/
def isN (n : Nat) : PyData → Bool
  | .int i => decide (0 ≤ i ∧ i ≤ n)
  | _ => false
theorem num_ok (p : PyData) (n : Nat) (hs : SeqAt.shaped p = true) : ∃ out, D_is_number [.v p, .v (.int 0), .v (.int (n : Nat))] = .ok (.bool (isN n p)) out := by
  cases p with
  | int i =>
    by_cases h1 : 0 ≤ i <;> by_cases h2 : i ≤ (n : Int) <;> simp [D_is_number, fnOf, sSeq, sSetX, xV, xL, dCall, aV, aIo, aNil, dVar, M.bind, Res.bind, M.ret, M.opt, reso, nodupB, ioIx, argsSl, backSl, tSetX, lLst, aBind, allV, dC, sizeLine_eq, sFor, iSeq, items, sRet, sIf, dtOr, dtNot, dtAnd, asB, dIsi, dIsi2, isB, tyN, dBin, two, oV, oN, dFx, xFn, aO, resA, fLen, fNe_int, fEq_int, fNe_bool, fEq_bool, fEq_none, fEq_nil, fLe, fGt, fGe, fCmp, dFz, fTuple, sNil, sDrop, dChain, dAnd, dNot, Sl.own, Sl.put, dGen, genB, lLc, lcB, iEnZip, TW.iEnum, gT, gLen, gsC, gsN, sAsg, tAsgG, gN_eq, tSet_eq, tSetL_eq, noIo_eq, wipeR, nio_un, nio_v, nio_l, fInt, fSub, fAdd, xBin, fIx, xSl, pAt, pNo, fSl, dIf, fIs, isNone, unwipe_eq, nio_wp, sh_int, sh_bool, sh_none, eqv_int, eqv_bool, eqv_none, isN, h1, h2]
  | dict _ => simp [SeqAt.shaped, PyData.canLay0] at hs
  | none => simp [D_is_number, fnOf, sSeq, sSetX, xV, xL, dCall, aV, aIo, aNil, dVar, M.bind, Res.bind, M.ret, M.opt, reso, nodupB, ioIx, argsSl, backSl, tSetX, lLst, aBind, allV, dC, sizeLine_eq, sFor, iSeq, items, sRet, sIf, dtOr, dtNot, dtAnd, asB, dIsi, dIsi2, isB, tyN, dBin, two, oV, oN, dFx, xFn, aO, resA, fLen, fNe_int, fEq_int, fNe_bool, fEq_bool, fEq_none, fEq_nil, fLe, fGt, fGe, fCmp, dFz, fTuple, sNil, sDrop, dChain, dAnd, dNot, Sl.own, Sl.put, dGen, genB, lLc, lcB, iEnZip, TW.iEnum, gT, gLen, gsC, gsN, sAsg, tAsgG, gN_eq, tSet_eq, tSetL_eq, noIo_eq, wipeR, nio_un, nio_v, nio_l, fInt, fSub, fAdd, xBin, fIx, xSl, pAt, pNo, fSl, dIf, fIs, isNone, unwipe_eq, nio_wp, sh_int, sh_bool, sh_none, eqv_int, eqv_bool, eqv_none, isN]
  | bool _ => simp [D_is_number, fnOf, sSeq, sSetX, xV, xL, dCall, aV, aIo, aNil, dVar, M.bind, Res.bind, M.ret, M.opt, reso, nodupB, ioIx, argsSl, backSl, tSetX, lLst, aBind, allV, dC, sizeLine_eq, sFor, iSeq, items, sRet, sIf, dtOr, dtNot, dtAnd, asB, dIsi, dIsi2, isB, tyN, dBin, two, oV, oN, dFx, xFn, aO, resA, fLen, fNe_int, fEq_int, fNe_bool, fEq_bool, fEq_none, fEq_nil, fLe, fGt, fGe, fCmp, dFz, fTuple, sNil, sDrop, dChain, dAnd, dNot, Sl.own, Sl.put, dGen, genB, lLc, lcB, iEnZip, TW.iEnum, gT, gLen, gsC, gsN, sAsg, tAsgG, gN_eq, tSet_eq, tSetL_eq, noIo_eq, wipeR, nio_un, nio_v, nio_l, fInt, fSub, fAdd, xBin, fIx, xSl, pAt, pNo, fSl, dIf, fIs, isNone, unwipe_eq, nio_wp, sh_int, sh_bool, sh_none, eqv_int, eqv_bool, eqv_none, isN]
  | str _ => simp [D_is_number, fnOf, sSeq, sSetX, xV, xL, dCall, aV, aIo, aNil, dVar, M.bind, Res.bind, M.ret, M.opt, reso, nodupB, ioIx, argsSl, backSl, tSetX, lLst, aBind, allV, dC, sizeLine_eq, sFor, iSeq, items, sRet, sIf, dtOr, dtNot, dtAnd, asB, dIsi, dIsi2, isB, tyN, dBin, two, oV, oN, dFx, xFn, aO, resA, fLen, fNe_int, fEq_int, fNe_bool, fEq_bool, fEq_none, fEq_nil, fLe, fGt, fGe, fCmp, dFz, fTuple, sNil, sDrop, dChain, dAnd, dNot, Sl.own, Sl.put, dGen, genB, lLc, lcB, iEnZip, TW.iEnum, gT, gLen, gsC, gsN, sAsg, tAsgG, gN_eq, tSet_eq, tSetL_eq, noIo_eq, wipeR, nio_un, nio_v, nio_l, fInt, fSub, fAdd, xBin, fIx, xSl, pAt, pNo, fSl, dIf, fIs, isNone, unwipe_eq, nio_wp, sh_int, sh_bool, sh_none, eqv_int, eqv_bool, eqv_none, isN]
  | list _ => simp [D_is_number, fnOf, sSeq, sSetX, xV, xL, dCall, aV, aIo, aNil, dVar, M.bind, Res.bind, M.ret, M.opt, reso, nodupB, ioIx, argsSl, backSl, tSetX, lLst, aBind, allV, dC, sizeLine_eq, sFor, iSeq, items, sRet, sIf, dtOr, dtNot, dtAnd, asB, dIsi, dIsi2, isB, tyN, dBin, two, oV, oN, dFx, xFn, aO, resA, fLen, fNe_int, fEq_int, fNe_bool, fEq_bool, fEq_none, fEq_nil, fLe, fGt, fGe, fCmp, dFz, fTuple, sNil, sDrop, dChain, dAnd, dNot, Sl.own, Sl.put, dGen, genB, lLc, lcB, iEnZip, TW.iEnum, gT, gLen, gsC, gsN, sAsg, tAsgG, gN_eq, tSet_eq, tSetL_eq, noIo_eq, wipeR, nio_un, nio_v, nio_l, fInt, fSub, fAdd, xBin, fIx, xSl, pAt, pNo, fSl, dIf, fIs, isNone, unwipe_eq, nio_wp, sh_int, sh_bool, sh_none, eqv_int, eqv_bool, eqv_none, isN]
  | tuple _ => simp [D_is_number, fnOf, sSeq, sSetX, xV, xL, dCall, aV, aIo, aNil, dVar, M.bind, Res.bind, M.ret, M.opt, reso, nodupB, ioIx, argsSl, backSl, tSetX, lLst, aBind, allV, dC, sizeLine_eq, sFor, iSeq, items, sRet, sIf, dtOr, dtNot, dtAnd, asB, dIsi, dIsi2, isB, tyN, dBin, two, oV, oN, dFx, xFn, aO, resA, fLen, fNe_int, fEq_int, fNe_bool, fEq_bool, fEq_none, fEq_nil, fLe, fGt, fGe, fCmp, dFz, fTuple, sNil, sDrop, dChain, dAnd, dNot, Sl.own, Sl.put, dGen, genB, lLc, lcB, iEnZip, TW.iEnum, gT, gLen, gsC, gsN, sAsg, tAsgG, gN_eq, tSet_eq, tSetL_eq, noIo_eq, wipeR, nio_un, nio_v, nio_l, fInt, fSub, fAdd, xBin, fIx, xSl, pAt, pNo, fSl, dIf, fIs, isNone, unwipe_eq, nio_wp, sh_int, sh_bool, sh_none, eqv_int, eqv_bool, eqv_none, isN]
theorem i5n_ok {a b p : PyData} (hs : SeqAt.shaped p = true) : i5n [.v (.str w), .v (.int (l : Nat)), .v (.tuple (nats t)), .v (.tuple [a, b, p]), y4, y5, y6] = .ok (isN t.length p) [.v (.str w), .v (.int (l : Nat)), .v (.tuple (nats t)), .v (.tuple [a, b, p]), y4, y5, y6] := by
  obtain ⟨out, e⟩ := num_ok p t.length hs
  have hl : (nats t).length = t.length := by simp [nats]
  simp [i5n, fnOf, sSeq, sSetX, xV, xL, dCall, aV, aIo, aNil, dVar, M.bind, Res.bind, M.ret, M.opt, reso, nodupB, ioIx, argsSl, backSl, tSetX, lLst, aBind, allV, dC, sizeLine_eq, sFor, iSeq, items, sRet, sIf, dtOr, dtNot, dtAnd, asB, dIsi, dIsi2, isB, tyN, dBin, two, oV, oN, dFx, xFn, aO, resA, fLen, fNe_int, fEq_int, fNe_bool, fEq_bool, fEq_none, fEq_nil, fLe, fGt, fGe, fCmp, dFz, fTuple, sNil, sDrop, dChain, dAnd, dNot, Sl.own, Sl.put, dGen, genB, lLc, lcB, iEnZip, TW.iEnum, gT, gLen, gsC, gsN, sAsg, tAsgG, gN_eq, tSet_eq, tSetL_eq, noIo_eq, wipeR, nio_un, nio_v, nio_l, fInt, fSub, fAdd, xBin, fIx, xSl, pAt, pNo, fSl, dIf, fIs, isNone, unwipe_eq, nio_wp, sh_int, sh_bool, sh_none, eqv_int, eqv_bool, eqv_none, atI2, hl, e]
theorem i5r_ok {k : Str} {c i : Nat} : i5r [.v (.str w), .v (.int (l : Nat)), .v (.tuple (nats t)), .v (ext k c i), y4, y5, y6] = .ok (.bool (decide (t[i]? = some c))) [.v (.str w), .v (.int (l : Nat)), .v (.tuple (nats t)), .v (ext k c i), y4, y5, y6] := by
  have hl : (nats t).length = t.length := by simp [nats]
  by_cases h : i < t.length
  · have e := atI_nat (nats_get h)
    by_cases hc : t[i] = c
    · simp [i5r, ext, fnOf, sSeq, sSetX, xV, xL, dCall, aV, aIo, aNil, dVar, M.bind, Res.bind, M.ret, M.opt, reso, nodupB, ioIx, argsSl, backSl, tSetX, lLst, aBind, allV, dC, sizeLine_eq, sFor, iSeq, items, sRet, sIf, dtOr, dtNot, dtAnd, asB, dIsi, dIsi2, isB, tyN, dBin, two, oV, oN, dFx, xFn, aO, resA, fLen, fNe_int, fEq_int, fNe_bool, fEq_bool, fEq_none, fEq_nil, fLe, fGt, fGe, fCmp, dFz, fTuple, sNil, sDrop, dChain, dAnd, dNot, Sl.own, Sl.put, dGen, genB, lLc, lcB, iEnZip, TW.iEnum, gT, gLen, gsC, gsN, sAsg, tAsgG, gN_eq, tSet_eq, tSetL_eq, noIo_eq, wipeR, nio_un, nio_v, nio_l, fInt, fSub, fAdd, xBin, fIx, xSl, pAt, pNo, fSl, dIf, fIs, isNone, unwipe_eq, nio_wp, sh_int, sh_bool, sh_none, eqv_int, eqv_bool, eqv_none, fLt, atI2, atI1, hl, h, e, hc]
    · have hc2 : ¬ ((t[i] : Nat) : Int) = c := by omega
      simp [i5r, ext, fnOf, sSeq, sSetX, xV, xL, dCall, aV, aIo, aNil, dVar, M.bind, Res.bind, M.ret, M.opt, reso, nodupB, ioIx, argsSl, backSl, tSetX, lLst, aBind, allV, dC, sizeLine_eq, sFor, iSeq, items, sRet, sIf, dtOr, dtNot, dtAnd, asB, dIsi, dIsi2, isB, tyN, dBin, two, oV, oN, dFx, xFn, aO, resA, fLen, fNe_int, fEq_int, fNe_bool, fEq_bool, fEq_none, fEq_nil, fLe, fGt, fGe, fCmp, dFz, fTuple, sNil, sDrop, dChain, dAnd, dNot, Sl.own, Sl.put, dGen, genB, lLc, lcB, iEnZip, TW.iEnum, gT, gLen, gsC, gsN, sAsg, tAsgG, gN_eq, tSet_eq, tSetL_eq, noIo_eq, wipeR, nio_un, nio_v, nio_l, fInt, fSub, fAdd, xBin, fIx, xSl, pAt, pNo, fSl, dIf, fIs, isNone, unwipe_eq, nio_wp, sh_int, sh_bool, sh_none, eqv_int, eqv_bool, eqv_none, fLt, atI2, atI1, hl, h, e, hc, hc2]
  · have e : t[i]? = none := List.getElem?_eq_none (by omega)
    simp [i5r, ext, fnOf, sSeq, sSetX, xV, xL, dCall, aV, aIo, aNil, dVar, M.bind, Res.bind, M.ret, M.opt, reso, nodupB, ioIx, argsSl, backSl, tSetX, lLst, aBind, allV, dC, sizeLine_eq, sFor, iSeq, items, sRet, sIf, dtOr, dtNot, dtAnd, asB, dIsi, dIsi2, isB, tyN, dBin, two, oV, oN, dFx, xFn, aO, resA, fLen, fNe_int, fEq_int, fNe_bool, fEq_bool, fEq_none, fEq_nil, fLe, fGt, fGe, fCmp, dFz, fTuple, sNil, sDrop, dChain, dAnd, dNot, Sl.own, Sl.put, dGen, genB, lLc, lcB, iEnZip, TW.iEnum, gT, gLen, gsC, gsN, sAsg, tAsgG, gN_eq, tSet_eq, tSetL_eq, noIo_eq, wipeR, nio_un, nio_v, nio_l, fInt, fSub, fAdd, xBin, fIx, xSl, pAt, pNo, fSl, dIf, fIs, isNone, unwipe_eq, nio_wp, sh_int, sh_bool, sh_none, eqv_int, eqv_bool, eqv_none, fLt, atI2, hl, h, e]
theorem i6r_ok {k : Str} {c : Nat} : i6r [.v (.str w), .v (.int (l : Nat)), .v (.tuple (nats t)), .v (Ms.one k c).d, y4, y5, y6] = .ok (.bool (decide (t.drop (t.length - 1) = [c]))) [.v (.str w), .v (.int (l : Nat)), .v (.tuple (nats t)), .v (Ms.one k c).d, y4, y5, y6] := by
  rcases List.eq_nil_or_concat t with rfl | ⟨u, x, rfl⟩
  · simp [i6r, Ms.d, fnOf, sSeq, sSetX, xV, xL, dCall, aV, aIo, aNil, dVar, M.bind, Res.bind, M.ret, M.opt, reso, nodupB, ioIx, argsSl, backSl, tSetX, lLst, aBind, allV, dC, sizeLine_eq, sFor, iSeq, items, sRet, sIf, dtOr, dtNot, dtAnd, asB, dIsi, dIsi2, isB, tyN, dBin, two, oV, oN, dFx, xFn, aO, resA, fLen, fNe_int, fEq_int, fNe_bool, fEq_bool, fEq_none, fEq_nil, fLe, fGt, fGe, fCmp, dFz, fTuple, sNil, sDrop, dChain, dAnd, dNot, Sl.own, Sl.put, dGen, genB, lLc, lcB, iEnZip, TW.iEnum, gT, gLen, gsC, gsN, sAsg, tAsgG, gN_eq, tSet_eq, tSetL_eq, noIo_eq, wipeR, nio_un, nio_v, nio_l, fInt, fSub, fAdd, xBin, fIx, xSl, pAt, pNo, fSl, dIf, fIs, isNone, unwipe_eq, nio_wp, sh_int, sh_bool, sh_none, eqv_int, eqv_bool, eqv_none, fBool, nats]
  · rw [List.concat_eq_append]
    have e : atI (nats (u ++ [x])) (-1) = some (.int (x : Nat)) := by
      have : nats (u ++ [x]) = nats u ++ [.int (x : Nat)] := by simp [nats]
      rw [this]
      have h1 : ¬ (0 : Int) ≤ -1 := by omega
      have h2 : -(((nats u ++ [PyData.int (x : Nat)]).length : Nat) : Int) ≤ -1 := by simp; omega
      have h3 : (-1 + (((nats u ++ [PyData.int (x : Nat)]).length : Nat) : Int)).toNat = (nats u).length := by simp; omega
      unfold atI ixN
      rw [if_neg h1, if_pos h2, Option.bind_some, h3]
      simp
    have hd : (u ++ [x]).drop ((u ++ [x]).length - 1) = [x] := by simp
    have ne : (nats (u ++ [x])).isEmpty = false := by simp [nats]
    have ne' : nats (u ++ [x]) ≠ [] := by simp [nats]
    rw [hd]
    by_cases hc : x = c
    · subst hc
      simp [i6r, Ms.d, dNeg, fnOf, sSeq, sSetX, xV, xL, dCall, aV, aIo, aNil, dVar, M.bind, Res.bind, M.ret, M.opt, reso, nodupB, ioIx, argsSl, backSl, tSetX, lLst, aBind, allV, dC, sizeLine_eq, sFor, iSeq, items, sRet, sIf, dtOr, dtNot, dtAnd, asB, dIsi, dIsi2, isB, tyN, dBin, two, oV, oN, dFx, xFn, aO, resA, fLen, fNe_int, fEq_int, fNe_bool, fEq_bool, fEq_none, fEq_nil, fLe, fGt, fGe, fCmp, dFz, fTuple, sNil, sDrop, dChain, dAnd, dNot, Sl.own, Sl.put, dGen, genB, lLc, lcB, iEnZip, TW.iEnum, gT, gLen, gsC, gsN, sAsg, tAsgG, gN_eq, tSet_eq, tSetL_eq, noIo_eq, wipeR, nio_un, nio_v, nio_l, fInt, fSub, fAdd, xBin, fIx, xSl, pAt, pNo, fSl, dIf, fIs, isNone, unwipe_eq, nio_wp, sh_int, sh_bool, sh_none, eqv_int, eqv_bool, eqv_none, fBool, ne, ne', e, atI1]
    · have hc2 : ¬ (x : Int) = c := by omega
      simp [i6r, Ms.d, dNeg, fnOf, sSeq, sSetX, xV, xL, dCall, aV, aIo, aNil, dVar, M.bind, Res.bind, M.ret, M.opt, reso, nodupB, ioIx, argsSl, backSl, tSetX, lLst, aBind, allV, dC, sizeLine_eq, sFor, iSeq, items, sRet, sIf, dtOr, dtNot, dtAnd, asB, dIsi, dIsi2, isB, tyN, dBin, two, oV, oN, dFx, xFn, aO, resA, fLen, fNe_int, fEq_int, fNe_bool, fEq_bool, fEq_none, fEq_nil, fLe, fGt, fGe, fCmp, dFz, fTuple, sNil, sDrop, dChain, dAnd, dNot, Sl.own, Sl.put, dGen, genB, lLc, lcB, iEnZip, TW.iEnum, gT, gLen, gsC, gsN, sAsg, tAsgG, gN_eq, tSet_eq, tSetL_eq, noIo_eq, wipeR, nio_un, nio_v, nio_l, fInt, fSub, fAdd, xBin, fIx, xSl, pAt, pNo, fSl, dIf, fIs, isNone, unwipe_eq, nio_wp, sh_int, sh_bool, sh_none, eqv_int, eqv_bool, eqv_none, fBool, ne, ne', e, atI1, hc, hc2]
theorem i7r_ok {k : Str} {c : Nat} : i7r [.v (.str w), .v (.int (l : Nat)), .v (.tuple (nats t)), .v (Ms.one k c).d, y4, y5, y6] = .ok (.bool (decide (t.take 1 = [c]))) [.v (.str w), .v (.int (l : Nat)), .v (.tuple (nats t)), .v (Ms.one k c).d, y4, y5, y6] := by
  cases t with
  | nil => simp [i7r, Ms.d, fnOf, sSeq, sSetX, xV, xL, dCall, aV, aIo, aNil, dVar, M.bind, Res.bind, M.ret, M.opt, reso, nodupB, ioIx, argsSl, backSl, tSetX, lLst, aBind, allV, dC, sizeLine_eq, sFor, iSeq, items, sRet, sIf, dtOr, dtNot, dtAnd, asB, dIsi, dIsi2, isB, tyN, dBin, two, oV, oN, dFx, xFn, aO, resA, fLen, fNe_int, fEq_int, fNe_bool, fEq_bool, fEq_none, fEq_nil, fLe, fGt, fGe, fCmp, dFz, fTuple, sNil, sDrop, dChain, dAnd, dNot, Sl.own, Sl.put, dGen, genB, lLc, lcB, iEnZip, TW.iEnum, gT, gLen, gsC, gsN, sAsg, tAsgG, gN_eq, tSet_eq, tSetL_eq, noIo_eq, wipeR, nio_un, nio_v, nio_l, fInt, fSub, fAdd, xBin, fIx, xSl, pAt, pNo, fSl, dIf, fIs, isNone, unwipe_eq, nio_wp, sh_int, sh_bool, sh_none, eqv_int, eqv_bool, eqv_none, fBool, nats]
  | cons x u =>
    have e : atI (nats (x :: u)) 0 = some (.int (x : Nat)) := atI0 _ _
    have ne : (nats (x :: u)).isEmpty = false := by simp [nats]
    have ne' : nats (x :: u) ≠ [] := by simp [nats]
    by_cases hc : x = c
    · subst hc
      simp [i7r, Ms.d, fnOf, sSeq, sSetX, xV, xL, dCall, aV, aIo, aNil, dVar, M.bind, Res.bind, M.ret, M.opt, reso, nodupB, ioIx, argsSl, backSl, tSetX, lLst, aBind, allV, dC, sizeLine_eq, sFor, iSeq, items, sRet, sIf, dtOr, dtNot, dtAnd, asB, dIsi, dIsi2, isB, tyN, dBin, two, oV, oN, dFx, xFn, aO, resA, fLen, fNe_int, fEq_int, fNe_bool, fEq_bool, fEq_none, fEq_nil, fLe, fGt, fGe, fCmp, dFz, fTuple, sNil, sDrop, dChain, dAnd, dNot, Sl.own, Sl.put, dGen, genB, lLc, lcB, iEnZip, TW.iEnum, gT, gLen, gsC, gsN, sAsg, tAsgG, gN_eq, tSet_eq, tSetL_eq, noIo_eq, wipeR, nio_un, nio_v, nio_l, fInt, fSub, fAdd, xBin, fIx, xSl, pAt, pNo, fSl, dIf, fIs, isNone, unwipe_eq, nio_wp, sh_int, sh_bool, sh_none, eqv_int, eqv_bool, eqv_none, fBool, ne, ne', e, atI1]
    · have hc2 : ¬ (x : Int) = c := by omega
      simp [i7r, Ms.d, fnOf, sSeq, sSetX, xV, xL, dCall, aV, aIo, aNil, dVar, M.bind, Res.bind, M.ret, M.opt, reso, nodupB, ioIx, argsSl, backSl, tSetX, lLst, aBind, allV, dC, sizeLine_eq, sFor, iSeq, items, sRet, sIf, dtOr, dtNot, dtAnd, asB, dIsi, dIsi2, isB, tyN, dBin, two, oV, oN, dFx, xFn, aO, resA, fLen, fNe_int, fEq_int, fNe_bool, fEq_bool, fEq_none, fEq_nil, fLe, fGt, fGe, fCmp, dFz, fTuple, sNil, sDrop, dChain, dAnd, dNot, Sl.own, Sl.put, dGen, genB, lLc, lcB, iEnZip, TW.iEnum, gT, gLen, gsC, gsN, sAsg, tAsgG, gN_eq, tSet_eq, tSetL_eq, noIo_eq, wipeR, nio_un, nio_v, nio_l, fInt, fSub, fAdd, xBin, fIx, xSl, pAt, pNo, fSl, dIf, fIs, isNone, unwipe_eq, nio_wp, sh_int, sh_bool, sh_none, eqv_int, eqv_bool, eqv_none, fBool, ne, ne', e, atI1, hc, hc2]
theorem i8r_ok {k : Str} (hk : k ∈ kk6) (ht : t.length < 60) : i8r [.v (.str w), .v (.int (l : Nat)), .v (.tuple (nats t)), .v one, y4, y5, .v (.str k)] = .ok (.bool true) [.v (.str w), .v (.int (l : Nat)), .v (.tuple (nats t)), .v one, y4, y5, .v (.str k)] := by
  have e := eqK (s := "turn") hk (by decide +kernel)
  have hl : (nats t).length = t.length := by simp [nats]
  have ht2 : (t.length : Int) < 60 := by omega
  by_cases hc : k = "turn"
  · rw [decide_eq_true hc] at e
    simp [i8r, dOr, con_MOST_TEXT, fnOf, sSeq, sSetX, xV, xL, dCall, aV, aIo, aNil, dVar, M.bind, Res.bind, M.ret, M.opt, reso, nodupB, ioIx, argsSl, backSl, tSetX, lLst, aBind, allV, dC, sizeLine_eq, sFor, iSeq, items, sRet, sIf, dtOr, dtNot, dtAnd, asB, dIsi, dIsi2, isB, tyN, dBin, two, oV, oN, dFx, xFn, aO, resA, fLen, fNe_int, fEq_int, fNe_bool, fEq_bool, fEq_none, fEq_nil, fLe, fGt, fGe, fCmp, dFz, fTuple, sNil, sDrop, dChain, dAnd, dNot, Sl.own, Sl.put, dGen, genB, lLc, lcB, iEnZip, TW.iEnum, gT, gLen, gsC, gsN, sAsg, tAsgG, gN_eq, tSet_eq, tSetL_eq, noIo_eq, wipeR, nio_un, nio_v, nio_l, fInt, fSub, fAdd, xBin, fIx, xSl, pAt, pNo, fSl, dIf, fIs, isNone, unwipe_eq, nio_wp, sh_int, sh_bool, sh_none, eqv_int, eqv_bool, eqv_none, e]
  · rw [decide_eq_false hc] at e
    simp [i8r, dOr, con_MOST_TEXT, fnOf, sSeq, sSetX, xV, xL, dCall, aV, aIo, aNil, dVar, M.bind, Res.bind, M.ret, M.opt, reso, nodupB, ioIx, argsSl, backSl, tSetX, lLst, aBind, allV, dC, sizeLine_eq, sFor, iSeq, items, sRet, sIf, dtOr, dtNot, dtAnd, asB, dIsi, dIsi2, isB, tyN, dBin, two, oV, oN, dFx, xFn, aO, resA, fLen, fNe_int, fEq_int, fNe_bool, fEq_bool, fEq_none, fEq_nil, fLe, fGt, fGe, fCmp, dFz, fTuple, sNil, sDrop, dChain, dAnd, dNot, Sl.own, Sl.put, dGen, genB, lLc, lcB, iEnZip, TW.iEnum, gT, gLen, gsC, gsN, sAsg, tAsgG, gN_eq, tSet_eq, tSetL_eq, noIo_eq, wipeR, nio_un, nio_v, nio_l, fInt, fSub, fAdd, xBin, fIx, xSl, pAt, pNo, fSl, dIf, fIs, isNone, unwipe_eq, nio_wp, sh_int, sh_bool, sh_none, eqv_int, eqv_bool, eqv_none, fLt, e, hl, ht2]
end
end K02

end
section
namespace K02
open PySem PySem.Spec PyProof.Rows L2 TW

theorem same_nats : ∀ a : List Nat, sameDs (nats a) (nats a) = true
  | [] => rfl
  | x :: a => by
    have := same_nats a
    show (sameD (.int (x : Nat)) (.int (x : Nat)) && sameDs (nats a) (nats a)) = true
    rw [this]
    simp [sameD]
theorem same_ms (x : Ms) : sameD x.d x.d = true := by
  cases x with
  | one k c => simp [Ms.d, sameD, sameDs]
  | perm ps => simp [Ms.d, sameD, sameDs, same_nats]
  | turn => simp [Ms.d, sameD, sameDs]
theorem same_ext (k : Str) (c i : Nat) : sameD (ext k c i) (ext k c i) = true := by simp [ext, sameD, sameDs]
theorem nats_inj {a b : List Nat} (h : nats a = nats b) : a = b := by
  have := eqv_nats a b
  rw [h, eqv_nats b b] at this
  simpa using this.symm
theorem ms_inj {x y : Ms} (h : x.d = y.d) : x = y := by
  cases x with
  | one k c =>
    cases y with
    | one k2 c2 =>
      simp only [Ms.d, PyData.tuple.injEq, List.cons.injEq, PyData.str.injEq, PyData.int.injEq, and_true] at h
      obtain ⟨rfl, h⟩ := h
      have : c = c2 := by omega
      rw [this]
    | perm ps => simp [Ms.d] at h
    | turn => simp [Ms.d] at h
  | perm ps =>
    cases y with
    | one k2 c2 => simp [Ms.d] at h
    | perm ps2 =>
      simp only [Ms.d, PyData.tuple.injEq, List.cons.injEq, and_true, true_and] at h
      rw [nats_inj h]
    | turn => simp [Ms.d] at h
  | turn =>
    cases y with
    | one k2 c2 => simp [Ms.d] at h
    | perm ps2 => simp [Ms.d] at h
    | turn => rfl
/-- a message of an open world that can be done -/
def okE (t : List Nat) : Ms → Prop
  | .one k c => (k = "chop" → t.drop (t.length - 1) = [c]) ∧ (k = "behead" → t.take 1 = [c])
  | _ => True
theorem ch_be : ("chop" : Str) ≠ "behead" := by decide +kernel
theorem mem_edN {w : Str} {t : List Nat} {x : Ms} {d : PyData} (hh : hid w = false) : d ∈ edS w t x ↔ d = x.d ∧ okE t x := by
  cases x with
  | perm _ => simp [edS, okE]
  | turn => simp [edS, okE]
  | one k c =>
    simp only [edS, hh, Bool.false_eq_true, if_false, okE]
    by_cases hc : k = "chop"
    · have hb : ¬ k = "behead" := fun h => ch_be (hc.symm.trans h)
      have hB : cbB k = true := by simp [cbB, hc]
      by_cases hd : t.drop (t.length - 1) = [c]
      · simp [hc, hd, ch_be]
      · simp [hc, hd, ch_be, show cbB "chop" = true by decide +kernel]
    · by_cases hb : k = "behead"
      · by_cases hd : t.take 1 = [c]
        · simp [hb, hd, ch_be.symm]
        · simp [hb, hd, ch_be.symm, show cbB "behead" = true by decide +kernel]
      · simp [cbB, hc, hb]
theorem mem_edH {w : Str} {t : List Nat} {k : Str} {c : Nat} {d : PyData} (hh : hid w = true) : d ∈ edS w t (.one k c) ↔ ∃ i, d = ext k c i ∧ ((k = "put" ∧ i ≤ t.length) ∨ (k ≠ "put" ∧ t[i]? = some c)) := by
  simp only [edS, hh, if_true]
  by_cases hp : k = "put"
  · simp only [hp, if_true, List.mem_map, List.mem_range, true_and, ne_eq, not_true_eq_false, false_and, or_false]
    constructor
    · rintro ⟨i, hi, rfl⟩
      exact ⟨i, rfl, by omega⟩
    · rintro ⟨i, rfl, hi⟩
      exact ⟨i, by omega, rfl⟩
  · simp only [hp, if_false, List.mem_map, List.mem_filter, List.mem_range, false_and, false_or, ne_eq, not_false_eq_true, true_and, decide_eq_true_eq]
    constructor
    · rintro ⟨i, ⟨hi, hc⟩, rfl⟩
      exact ⟨i, rfl, hc⟩
    · rintro ⟨i, rfl, hc⟩
      exact ⟨i, ⟨(List.getElem?_eq_some_iff.mp hc).1, hc⟩, rfl⟩
theorem mem_edits {w : Str} {X : List Ms} {t : List Nat} {d : PyData} : d ∈ edits w X t ↔ ∃ x ∈ X, d ∈ edS w t x := by simp [edits, List.mem_flatMap]
theorem hid_one {w : Str} {l : Nat} {X : List Ms} (g : WX w l X) (hh : hid w = true) : ∀ x ∈ X, ∃ k c, x = .one k c ∧ (k = "put" ∨ k = "take") := fun x hx => by
  have h := g.ok x hx
  cases x with
  | one k c =>
    simp only [msB, hh, Bool.and_eq_true, Bool.or_eq_true, decide_eq_true_eq, if_true] at h
    exact ⟨k, c, rfl, h.2⟩
  | perm ps =>
    simp only [msB, Bool.and_eq_true, decide_eq_true_eq] at h
    rw [h.1.1] at hh
    exact absurd hh (by decide +kernel)
  | turn =>
    simp only [msB, decide_eq_true_eq] at h
    rw [h] at hh
    exact absurd hh (by decide +kernel)
section
variable {w : Str} {l : Nat} {t : List Nat} {X : List Ms} {one : PyData} {y4 y5 y6 : Sl}
theorem iB_ok {r r' : List Sl} {b : Bool} {m : M PyData} (h : m r = .ok (.bool b) r') : (m.bind asB) r = .ok b r' := by rw [bind_ok h]; rfl
theorem i678_ok {k : Str} {c : Nat} (hk : k ∈ kk6) (ht : t.length < 60) : ∃ b r, i678 [.v (.str w), .v (.int (l : Nat)), .v (.tuple (nats t)), .v (Ms.one k c).d, y4, y5, .v (.str k)] = .ok (.rt (.bool b)) r ∧ (b = true ↔ okE t (.one k c)) := by
  have eC := iK_ok (w := w) (l := l) (t := t) (one := (Ms.one k c).d) (y4 := y4) (y5 := y5) (s := "chop") hk (by decide +kernel)
  have eB := iK_ok (w := w) (l := l) (t := t) (one := (Ms.one k c).d) (y4 := y4) (y5 := y5) (s := "behead") hk (by decide +kernel)
  unfold i678
  by_cases hc : k = "chop"
  · rw [decide_eq_true hc] at eC
    refine ⟨_, _, sSeq_rt ((sIf_t eC).trans (sRet_ok i6r_ok)), ?_⟩
    simp [okE, hc, ch_be]
  · rw [decide_eq_false hc] at eC
    rw [sSeq_nx (sIf_no eC)]
    by_cases hb : k = "behead"
    · rw [decide_eq_true hb] at eB
      refine ⟨_, _, sSeq_rt ((sIf_t eB).trans (sRet_ok i7r_ok)), ?_⟩
      simp [okE, hb, ch_be.symm]
    · rw [decide_eq_false hb] at eB
      rw [sSeq_nx (sIf_no eB)]
      exact ⟨_, _, sRet_ok (i8r_ok hk ht), by simp [okE, hc, hb]⟩
theorem i678_any {k : Str} (hc : k ≠ "chop") (hb : k ≠ "behead") (hk : k ∈ kk6) (ht : t.length < 60) : ∃ r, i678 [.v (.str w), .v (.int (l : Nat)), .v (.tuple (nats t)), .v one, y4, y5, .v (.str k)] = .ok (.rt (.bool true)) r := by
  have eC := iK_ok (w := w) (l := l) (t := t) (one := one) (y4 := y4) (y5 := y5) (s := "chop") hk (by decide +kernel)
  have eB := iK_ok (w := w) (l := l) (t := t) (one := one) (y4 := y4) (y5 := y5) (s := "behead") hk (by decide +kernel)
  rw [decide_eq_false hc] at eC
  rw [decide_eq_false hb] at eB
  unfold i678
  rw [sSeq_nx (sIf_no eC), sSeq_nx (sIf_no eB)]
  exact ⟨_, sRet_ok (i8r_ok hk ht)⟩
theorem iF_ok (r : List Sl) : iF r = .ok (.rt (.bool false)) r := rfl
theorem is_edit (g : WX w l X) (ht : t.length < 60) (hs : SeqAt.shaped one = true) : ∃ b out, D_is_edit [.v (.str w), .v (.int (l : Nat)), .v (.tuple (nats t)), .v one] = .ok (.bool b) out ∧ (b = true ↔ one ∈ edits w X t) := by
  rw [is_edit_eq]
  have tup : ∀ x ∈ X, ∀ d ∈ edS w t x, ∃ o os, d = .tuple (o :: os) := fun x hx d hd => by
    cases hh : hid w with
    | true =>
      obtain ⟨k, c, rfl, _⟩ := hid_one g hh x hx
      obtain ⟨i, rfl, _⟩ := (mem_edH hh).mp hd
      exact ⟨_, _, rfl⟩
    | false =>
      obtain ⟨rfl, _⟩ := (mem_edN hh).mp hd
      obtain ⟨rest, e⟩ := ms_head x
      exact ⟨_, _, e⟩
  by_cases hN : ∃ o os, one = .tuple (o :: os)
  case neg =>
    have e1 := i1_f (w := w) (l := l) (t := t) (one := one) (y4 := .un) (y5 := .un) (y6 := .un) (fun o os e => hN ⟨o, os, e⟩) hs
    refine ⟨false, _, fnOf_rt rfl (sSeq_rt ((sIf_t e1).trans (iF_ok _))), ?_⟩
    simp only [Bool.false_eq_true, false_iff]
    intro h
    obtain ⟨x, hx, hd⟩ := mem_edits.mp h
    exact hN (tup x hx _ hd)
  obtain ⟨o, os, rfl⟩ := hN
  have e1 := i1_t (w := w) (l := l) (t := t) (y4 := .un) (y5 := .un) (y6 := .un) (o := o) (os := os)
  have e2 := i2_ok (w := w) (l := l) (t := t) (y4 := .un) (y5 := .un) (y6 := .un) (os := o :: os) g.hw rfl
  obtain ⟨z, hz, e3⟩ := iG_ok (t := t) (y5 := .un) (y6 := .un) g hs rfl
  have e3 := not_ok (iB_ok e3)
  have e4 := i4_ok (w := w) (l := l) (t := t) (y4 := .v (shown w (o :: os))) (y5 := z) (y6 := .un) (o := o) (os := os) rfl
  have eH := iH_ok (w := w) (l := l) (t := t) (one := .tuple (o :: os)) (y4 := .v (shown w (o :: os))) (y5 := z) (y6 := .v o) g.hw
  cases hA : X.any fun x => sameD (shown w (o :: os)) x.d with
  | false =>
    rw [hA] at e3
    refine ⟨false, _, fnOf_rt rfl ((sSeq_nx (sIf_no e1)).trans ((sSeq_nx e2).trans (sSeq_rt ((sIf_t e3).trans (iF_ok _))))), ?_⟩
    simp only [Bool.false_eq_true, false_iff]
    intro h
    obtain ⟨x, hx, hd⟩ := mem_edits.mp h
    have hx2 := List.any_eq_false.mp hA x hx
    cases hh : hid w with
    | true =>
      obtain ⟨k, c, rfl, _⟩ := hid_one g hh x hx
      obtain ⟨i, e, _⟩ := (mem_edH hh).mp hd
      simp only [ext, PyData.tuple.injEq, List.cons.injEq] at e
      obtain ⟨rfl, rfl⟩ := e
      simp only [shown, hh, if_true, List.take_succ_cons, List.take_zero] at hx2
      exact hx2 (same_ms (.one k c))
    | false =>
      obtain ⟨e, _⟩ := (mem_edN hh).mp hd
      simp only [shown, hh, Bool.false_eq_true, if_false, e] at hx2
      exact hx2 (same_ms x)
  | true =>
    rw [hA] at e3
    obtain ⟨x, hx, hxd⟩ := List.any_eq_true.mp hA
    have hxd := sameD_eq _ _ hxd
    have head : ∀ (b : Bool) (r : List Sl), sSeq (sIf iH i5 sNil) i678 [.v (.str w), .v (.int (l : Nat)), .v (.tuple (nats t)), .v (.tuple (o :: os)), .v (shown w (o :: os)), z, .v o] = .ok (.rt (.bool b)) r → ∃ out, fnOf 4 7 (sSeq (sIf i1t iF sNil) (sSeq i2 (sSeq (sIf (dtNot (iG.bind asB)) iF sNil) (sSeq i4 (sSeq (sIf iH i5 sNil) i678))))) [.v (.str w), .v (.int (l : Nat)), .v (.tuple (nats t)), .v (.tuple (o :: os))] = .ok (.bool b) out := fun b r e =>
      ⟨_, fnOf_rt rfl ((sSeq_nx (sIf_no e1)).trans ((sSeq_nx e2).trans ((sSeq_nx (sIf_no e3)).trans ((sSeq_nx e4).trans e))))⟩
    have hk := ms_k6 (g.ok x hx)
    cases hh : hid w with
    | false =>
      simp only [shown, hh, Bool.false_eq_true, if_false] at hxd
      rw [hh] at eH
      have mem : PyData.tuple (o :: os) ∈ edits w X t ↔ okE t x := by
        rw [mem_edits]
        constructor
        · rintro ⟨y, hy, hd⟩
          obtain ⟨e, k⟩ := (mem_edN hh).mp hd
          rwa [ms_inj (hxd.symm.trans e)]
        · intro k
          exact ⟨x, hx, (mem_edN hh).mpr ⟨hxd, k⟩⟩
      rw [mem]
      have plain : ∀ (k : Str), k ∈ kk6 → k ≠ "chop" → k ≠ "behead" → o = .str k → okE t x → ∃ b out, fnOf 4 7 (sSeq (sIf i1t iF sNil) (sSeq i2 (sSeq (sIf (dtNot (iG.bind asB)) iF sNil) (sSeq i4 (sSeq (sIf iH i5 sNil) i678))))) [.v (.str w), .v (.int (l : Nat)), .v (.tuple (nats t)), .v (.tuple (o :: os))] = .ok (.bool b) out ∧ (b = true ↔ okE t x) := fun k hk hc hb ho hok => by
        subst ho
        obtain ⟨r, e⟩ := i678_any (w := w) (l := l) (t := t) (one := .tuple (.str k :: os)) (y4 := .v (shown w (.str k :: os))) (y5 := z) hc hb hk ht
        obtain ⟨out, q⟩ := head true r ((sSeq_nx (sIf_no eH)).trans e)
        exact ⟨true, out, q, by simp [hok]⟩
      cases x with
      | one k c =>
        simp only [Ms.d, PyData.tuple.injEq, List.cons.injEq] at hxd
        obtain ⟨rfl, rfl⟩ := hxd
        obtain ⟨b, r, e, hb⟩ := i678_ok (w := w) (l := l) (t := t) (k := k) (c := c) (y4 := .v (shown w [.str k, .int (c : Nat)])) (y5 := z) hk ht
        obtain ⟨out, q⟩ := head b r ((sSeq_nx (sIf_no eH)).trans e)
        exact ⟨b, out, q, hb⟩
      | perm ps =>
        simp only [Ms.d, PyData.tuple.injEq, List.cons.injEq] at hxd
        exact plain "turn" hk (by decide +kernel) (by decide +kernel) hxd.1 trivial
      | turn =>
        simp only [Ms.d, PyData.tuple.injEq, List.cons.injEq] at hxd
        exact plain "turn" hk (by decide +kernel) (by decide +kernel) hxd.1 trivial
    | true =>
      obtain ⟨k, c, rfl, hpt⟩ := hid_one g hh x hx
      simp only [shown, hh, if_true, Ms.d, PyData.tuple.injEq] at hxd
      rw [hh] at eH
      cases os with
      | nil => simp at hxd
      | cons o2 os =>
      simp only [List.take_succ_cons, List.take_zero, List.cons.injEq, and_true] at hxd
      obtain ⟨rfl, rfl⟩ := hxd
      have mem : PyData.tuple (.str k :: .int (c : Nat) :: os) ∈ edits w X t ↔ ∃ i : Nat, os = [.int (i : Nat)] ∧ ((k = "put" ∧ i ≤ t.length) ∨ (k ≠ "put" ∧ t[i]? = some c)) := by
        rw [mem_edits]
        constructor
        · rintro ⟨y, hy, hd⟩
          obtain ⟨k2, c2, rfl, _⟩ := hid_one g hh y hy
          obtain ⟨i, e, q⟩ := (mem_edH hh).mp hd
          simp only [ext, PyData.tuple.injEq, List.cons.injEq, PyData.str.injEq, PyData.int.injEq] at e
          obtain ⟨rfl, e2, e3⟩ := e
          have : c = c2 := by omega
          subst this
          exact ⟨i, e3, q⟩
        · rintro ⟨i, rfl, q⟩
          exact ⟨.one k c, hx, (mem_edH hh).mpr ⟨i, rfl, q⟩⟩
      rw [mem]
      have eL := i5l_ok (w := w) (l := l) (t := t) (os := .str k :: .int (c : Nat) :: os) (y4 := .v (shown w (.str k :: .int (c : Nat) :: os))) (y5 := z) (y6 := .v (.str k))
      by_cases hlen : os.length = 1
      case neg =>
        rw [decide_eq_false (by simp only [List.length_cons]; omega)] at eL
        obtain ⟨out, q⟩ := head false _ (sSeq_rt ((sIf_t eH).trans (sSeq_rt ((sIf_t (or_t eL)).trans (iF_ok _)))))
        refine ⟨false, out, q, ?_⟩
        simp only [Bool.false_eq_true, false_iff]
        rintro ⟨i, rfl, _⟩
        exact hlen rfl
      obtain ⟨p, rfl⟩ := List.length_eq_one_iff.mp hlen
      rw [decide_eq_true (by rfl)] at eL
      have hp : SeqAt.shaped p = true := sh_parts (.inl hs) p (by simp)
      have eN := not_ok (i5n_ok (w := w) (l := l) (t := t) (a := .str k) (b := .int (c : Nat)) (p := p) (y4 := .v (shown w [.str k, .int (c : Nat), p])) (y5 := z) (y6 := .v (.str k)) hp)
      by_cases hi : ∃ i : Nat, p = .int (i : Nat) ∧ i ≤ t.length
      case neg =>
        have : isN t.length p = false := by
          cases p with
          | int j =>
            simp only [isN, decide_eq_false_iff_not]
            rintro ⟨h1, h2⟩
            exact hi ⟨j.toNat, by rw [Int.toNat_of_nonneg h1], by omega⟩
          | _ => rfl
        rw [this] at eN
        obtain ⟨out, q⟩ := head false _ (sSeq_rt ((sIf_t eH).trans (sSeq_rt ((sIf_t (or_ff eL eN)).trans (iF_ok _)))))
        refine ⟨false, out, q, ?_⟩
        simp only [Bool.false_eq_true, false_iff]
        rintro ⟨i, e, q⟩
        simp only [List.cons.injEq, and_true] at e
        refine hi ⟨i, e, ?_⟩
        rcases q with ⟨_, h⟩ | ⟨_, h⟩
        · exact h
        · have := (List.getElem?_eq_some_iff.mp h).1
          omega
      obtain ⟨i, rfl, hi⟩ := hi
      have : isN t.length (.int (i : Nat)) = true := by
        simp only [isN, decide_eq_true_eq]
        omega
      rw [this] at eN
      have eT := iK_ok (w := w) (l := l) (t := t) (one := ext k c i) (y4 := .v (shown w [.str k, .int (c : Nat), .int (i : Nat)])) (y5 := z) (k := k) (s := "take") hk (by decide +kernel)
      rcases hpt with rfl | rfl
      · rw [show decide (("put" : Str) = "take") = false by decide +kernel] at eT
        obtain ⟨r, e⟩ := i678_any (w := w) (l := l) (t := t) (one := ext "put" c i) (y4 := .v (shown w [.str "put", .int (c : Nat), .int (i : Nat)])) (y5 := z) (k := "put") (by decide +kernel) (by decide +kernel) hk ht
        have e5 : sIf iH i5 sNil [.v (.str w), .v (.int (l : Nat)), .v (.tuple (nats t)), .v (ext "put" c i), .v (shown w [.str "put", .int (c : Nat), .int (i : Nat)]), z, .v (.str "put")] = .ok .nx [.v (.str w), .v (.int (l : Nat)), .v (.tuple (nats t)), .v (ext "put" c i), .v (shown w [.str "put", .int (c : Nat), .int (i : Nat)]), z, .v (.str "put")] := (sIf_t eH).trans ((sSeq_nx (sIf_no (or_ff eL eN))).trans (sIf_no eT))
        obtain ⟨out, q⟩ := head true r ((sSeq_nx e5).trans e)
        exact ⟨true, out, q, iff_of_true rfl ⟨i, rfl, .inl ⟨rfl, hi⟩⟩⟩
      · rw [show decide (("take" : Str) = "take") = true by decide +kernel] at eT
        have e5 := i5r_ok (w := w) (l := l) (t := t) (k := "take") (c := c) (i := i) (y4 := .v (shown w [.str "take", .int (c : Nat), .int (i : Nat)])) (y5 := z) (y6 := .v (.str "take"))
        obtain ⟨out, q⟩ := head _ _ (sSeq_rt ((sIf_t eH).trans ((sSeq_nx (sIf_no (or_ff eL eN))).trans ((sIf_t eT).trans (sRet_ok e5)))))
        refine ⟨_, out, q, ?_⟩
        have tp : ("take" : Str) ≠ "put" := by decide +kernel
        simp only [decide_eq_true_eq]
        constructor
        · intro h
          exact ⟨i, rfl, .inr ⟨tp, h⟩⟩
        · rintro ⟨j, e, q⟩
          simp only [List.cons.injEq, PyData.int.injEq, and_true] at e
          have : i = j := by omega
          subst this
          rcases q with ⟨h, _⟩ | ⟨_, h⟩
          · exact absurd h tp
          · exact h
end
end K02

end
section
namespace K02
open PySem PySem.Spec PyProof.Rows L2 TW

/-! pure reads at any frame -/
section
variable {r : List Sl} {i n : Nat} {t a b : List Nat} {P D : M PyData} {A B : M TW.Arg}
theorem nats_len (t : List Nat) : (nats t).length = t.length := by simp [nats]
theorem cut_take (t : List Nat) (n : Nat) : TW.cutD (nats t) none (some (n : Nat)) = nats (t.take n) := by
  unfold TW.cutD
  rw [HT.sIx_none, HT.sIx_nat, List.drop_zero, Nat.sub_zero, nats_len]
  by_cases h : n ≤ t.length
  · rw [Nat.min_eq_left h]
    simp [nats]
  · rw [Nat.min_eq_right (by omega), List.take_of_length_le (by simp [nats]), List.take_of_length_le (by omega)]
theorem cut_drop (t : List Nat) (n : Nat) : TW.cutD (nats t) (some (n : Nat)) none = nats (t.drop n) := by
  unfold TW.cutD
  rw [HT.sIx_none, HT.sIx_nat, nats_len, List.take_of_length_le (by simp [nats])]
  by_cases h : n ≤ t.length
  · rw [Nat.min_eq_left h]
    simp [nats]
  · rw [Nat.min_eq_right (by omega), List.drop_of_length_le (by simp [nats]), List.drop_of_length_le (by omega)]
    rfl
theorem cut_init (t : List Nat) : TW.cutD (nats t) none (some (-1)) = nats (t.take (t.length - 1)) := by
  unfold TW.cutD
  have e : HT.sIx (nats t).length (nats t).length (some (-1)) = t.length - 1 := by
    rw [nats_len]
    show (if (-1 : Int) < 0 then (-1 + (t.length : Int)).toNat else min (-1 : Int).toNat t.length) = _
    rw [if_pos (by omega)]
    omega
  rw [e, HT.sIx_none, List.drop_zero, Nat.sub_zero]
  simp [nats]
theorem rd_sl {lo hi : Part} {l h : Option Int} {ds : List PyData} (hi1 : r[i]? = some (.v (.tuple ds))) (hl : lo r = .ok l r) (hh : hi r = .ok h r) : dFx (xSl (oN i) lo hi) r = .ok (.tuple (TW.cutD ds l h)) r := by
  simp only [dFx, xSl, oN, M.bind, Res.bind, hi1, hl, hh, reso, fSl, M.opt, M.ret]
theorem pAt_ok {k : Int} (h : P r = .ok (.int k) r) : pAt P r = .ok (some k) r := by simp only [pAt, M.bind, Res.bind, h, M.ret]
theorem rd_take (hi : r[i]? = some (.v (.tuple (nats t)))) (h : P r = .ok (.int (n : Nat)) r) : dFx (xSl (oN i) pNo (pAt P)) r = .ok (.tuple (nats (t.take n))) r := by
  rw [rd_sl (lo := pNo) hi rfl (pAt_ok h), cut_take]
theorem rd_drop (hi : r[i]? = some (.v (.tuple (nats t)))) (h : P r = .ok (.int (n : Nat)) r) : dFx (xSl (oN i) (pAt P) pNo) r = .ok (.tuple (nats (t.drop n))) r := by
  rw [rd_sl (hi := pNo) hi (pAt_ok h) rfl, cut_drop]
theorem rd_init (hi : r[i]? = some (.v (.tuple (nats t)))) : dFx (xSl (oN i) pNo (pAt (dNeg (dC (.int 1))))) r = .ok (.tuple (nats (t.take (t.length - 1)))) r := by
  rw [rd_sl (lo := pNo) hi rfl (pAt_ok (P := dNeg (dC (.int 1))) (k := -1) rfl), cut_init]
theorem rd_one {c : Nat} (h : D r = .ok (.int (c : Nat)) r) : dTup (aV D aNil) r = .ok (.tuple (nats [c])) r := by
  simp [dTup, fnOf, sSeq, sSetX, xV, xL, dCall, aV, aIo, aNil, dVar, M.bind, Res.bind, M.ret, M.opt, reso, nodupB, ioIx, argsSl, backSl, tSetX, lLst, aBind, allV, dC, sizeLine_eq, sFor, iSeq, items, sRet, sIf, dtOr, dtNot, dtAnd, asB, dIsi, dIsi2, isB, tyN, dBin, two, oV, oN, dFx, xFn, aO, resA, fLen, fNe_int, fEq_int, fNe_bool, fEq_bool, fEq_none, fEq_nil, fLe, fGt, fGe, fCmp, dFz, fTuple, sNil, sDrop, dChain, dAnd, dNot, Sl.own, Sl.put, dGen, genB, lLc, lcB, iEnZip, TW.iEnum, gT, gLen, gsC, gsN, sAsg, tAsgG, gN_eq, tSet_eq, tSetL_eq, noIo_eq, wipeR, nio_un, nio_v, nio_l, fInt, fSub, fAdd, xBin, fIx, xSl, pAt, pNo, fSl, dIf, fIs, isNone, unwipe_eq, nio_wp, sh_int, sh_bool, sh_none, eqv_int, eqv_bool, eqv_none, h, nats]
theorem oV_ok {d : PyData} (h : D r = .ok d r) : oV D r = .ok (.v d) r := by simp only [oV, M.bind, Res.bind, h, M.ret]
theorem oN_ok {d : PyData} (h : r[i]? = some (.v d)) : oN i r = .ok (.v d) r := by simp only [oN, h]
theorem rd_add (hA : A r = .ok (.v (.tuple (nats a))) r) (hB : B r = .ok (.v (.tuple (nats b))) r) (h : a.length + b.length ≤ 1000) : dFx (xBin fAdd A B) r = .ok (.tuple (nats (a ++ b))) r := by
  have hz : (nats a).length + (nats b).length ≤ sizeLine := by
    rw [nats_len, nats_len, sizeLine_eq]
    omega
  have e : nats a ++ nats b = nats (a ++ b) := by simp [nats]
  simp only [dFx, xBin, two, M.bind, Res.bind, hA, hB, reso, fAdd, hz, if_true, M.opt, M.ret, e]
theorem rd_ix {ds : List PyData} {k : Int} {d : PyData} (hi : r[i]? = some (.v (.tuple ds))) (h : atI ds k = some d) : dBin fIx (oN i) (oV (dC (.int k))) r = .ok d r := by
  simp only [dBin, two, oN, oV, dC, M.bind, Res.bind, hi, M.ret, reso, fIx, h, M.opt]
end
def pmD (ps : List Nat) : PyData → PyData
  | .int s => .int ((ps.getD s.toNat 0 : Nat) : Int)
  | d => d

def dcElt4 : M PyData := dBin fIx (oV (dBin fIx (oN 2) (oV (dC (.int 1))))) (oN 4)
def dcLc4 : M (List PyData) := lLc [4] (iSeq (dVar 1)) (gN 4) tYesD dcElt4
theorem dcLc4_ok {w : Str} {t ps : List Nat} {x3 : PyData} {y : Sl} (hz : t.length ≤ 1000) (hy : nio y = true) (ht : ∀ s ∈ t, s < ps.length) : ∃ z, nio z = true ∧ dcLc4 [.v (.str w), .v (.tuple (nats t)), .v (Ms.perm ps).d, .v x3, y] = .ok (nats (t.map fun s => ps.getD s 0)) [.v (.str w), .v (.tuple (nats t)), .v (Ms.perm ps).d, .v x3, z] := by
  obtain ⟨r', q, z, hz2, rfl⟩ := lc_map (own := [4]) (T := gN 4) (tt := tYesD) (elt := dcElt4) (f := pmD ps) (P := fun r => ∃ y, nio y = true ∧ r = [.v (.str w), .v (.tuple (nats t)), .v (Ms.perm ps).d, .v x3, y]) (ds := nats t) (acc := []) (r := [.v (.str w), .v (.tuple (nats t)), .v (Ms.perm ps).d, .v x3, y]) ⟨y, hy, rfl⟩
    (fun d hd r hr => by
      obtain ⟨y, hy, rfl⟩ := hr
      obtain ⟨s, hs, rfl⟩ := List.mem_map.mp hd
      have e := atI_nat (nats_get (xs := ps) (ht s hs))
      have ee : dcElt4 [.v (.str w), .v (.tuple (nats t)), .v (Ms.perm ps).d, .v x3, .v (.int (s : Nat))] = .ok (pmD ps (.int (s : Nat))) [.v (.str w), .v (.tuple (nats t)), .v (Ms.perm ps).d, .v x3, .v (.int (s : Nat))] := by
        simp [dcElt4, pmD, Ms.d, fnOf, sSeq, sSetX, xV, xL, dCall, aV, aIo, aNil, dVar, M.bind, Res.bind, M.ret, M.opt, reso, nodupB, ioIx, argsSl, backSl, tSetX, lLst, aBind, allV, dC, sizeLine_eq, sFor, iSeq, items, sRet, sIf, dtOr, dtNot, dtAnd, asB, dIsi, dIsi2, isB, tyN, dBin, two, oV, oN, dFx, xFn, aO, resA, fLen, fNe_int, fEq_int, fNe_bool, fEq_bool, fEq_none, fEq_nil, fLe, fGt, fGe, fCmp, dFz, fTuple, sNil, sDrop, dChain, dAnd, dNot, Sl.own, Sl.put, dGen, genB, lLc, lcB, iEnZip, TW.iEnum, gT, gLen, gsC, gsN, sAsg, tAsgG, gN_eq, tSet_eq, tSetL_eq, noIo_eq, wipeR, nio_un, nio_v, nio_l, fInt, fSub, fAdd, xBin, fIx, xSl, pAt, pNo, fSl, dIf, fIs, isNone, unwipe_eq, nio_wp, sh_int, sh_bool, sh_none, eqv_int, eqv_bool, eqv_none, atI1, e, List.getD, ht s hs]
      exact ⟨by simp [noIo_eq, hy], [.v (.str w), .v (.tuple (nats t)), .v (Ms.perm ps).d, .v x3, .v (.int (s : Nat))], [.v (.str w), .v (.tuple (nats t)), .v (Ms.perm ps).d, .v x3, .v (.int (s : Nat))], [.v (.str w), .v (.tuple (nats t)), .v (Ms.perm ps).d, .v x3, .v (.int (s : Nat))], by simp [gN_eq, wipeR, nio], rfl, ee, .v (.int (s : Nat)), rfl, rfl⟩)
  have hn : noIo [.v (.str w), .v (.tuple (nats t)), .v (Ms.perm ps).d, .v x3, z] [4] = true := by simp [noIo_eq, hz2]
  have ei : (iSeq (dVar 1)) [.v (.str w), .v (.tuple (nats t)), .v (Ms.perm ps).d, .v x3, y] = .ok (nats t) [.v (.str w), .v (.tuple (nats t)), .v (Ms.perm ps).d, .v x3, y] := by simp [fnOf, sSeq, sSetX, xV, xL, dCall, aV, aIo, aNil, dVar, M.bind, Res.bind, M.ret, M.opt, reso, nodupB, ioIx, argsSl, backSl, tSetX, lLst, aBind, allV, dC, sizeLine_eq, sFor, iSeq, items, sRet, sIf, dtOr, dtNot, dtAnd, asB, dIsi, dIsi2, isB, tyN, dBin, two, oV, oN, dFx, xFn, aO, resA, fLen, fNe_int, fEq_int, fNe_bool, fEq_bool, fEq_none, fEq_nil, fLe, fGt, fGe, fCmp, dFz, fTuple, sNil, sDrop, dChain, dAnd, dNot, Sl.own, Sl.put, dGen, genB, lLc, lcB, iEnZip, TW.iEnum, gT, gLen, gsC, gsN, sAsg, tAsgG, gN_eq, tSet_eq, tSetL_eq, noIo_eq, wipeR, nio_un, nio_v, nio_l, fInt, fSub, fAdd, xBin, fIx, xSl, pAt, pNo, fSl, dIf, fIs, isNone, unwipe_eq, nio_wp, sh_int, sh_bool, sh_none, eqv_int, eqv_bool, eqv_none]
  have em : (nats t).map (pmD ps) = nats (t.map fun s => ps.getD s 0) := by
    simp [nats, pmD, Function.comp_def]
  rw [List.nil_append, em] at q
  refine ⟨wp y, nio_wp _, ?_⟩
  unfold dcLc4
  rw [lLc_ok ei, lcB_ok (sizeLine_le (by simp [nats]; omega)) q hn]
  simp [unwipe_eq]


def dcElt3 : M PyData := dBin fIx (oV (dBin fIx (oN 2) (oV (dC (.int 1))))) (oN 3)
def dcLc3 : M (List PyData) := lLc [3] (iSeq (dVar 1)) (gN 3) tYesD dcElt3
theorem dcLc3_ok {w : Str} {t ps : List Nat} {y4 : Sl} {y : Sl} (hz : t.length ≤ 1000) (hy : nio y = true) (ht : ∀ s ∈ t, s < ps.length) : ∃ z, nio z = true ∧ dcLc3 [.v (.str w), .v (.tuple (nats t)), .v (Ms.perm ps).d, y, y4] = .ok (nats (t.map fun s => ps.getD s 0)) [.v (.str w), .v (.tuple (nats t)), .v (Ms.perm ps).d, z, y4] := by
  obtain ⟨r', q, z, hz2, rfl⟩ := lc_map (own := [3]) (T := gN 3) (tt := tYesD) (elt := dcElt3) (f := pmD ps) (P := fun r => ∃ y, nio y = true ∧ r = [.v (.str w), .v (.tuple (nats t)), .v (Ms.perm ps).d, y, y4]) (ds := nats t) (acc := []) (r := [.v (.str w), .v (.tuple (nats t)), .v (Ms.perm ps).d, y, y4]) ⟨y, hy, rfl⟩
    (fun d hd r hr => by
      obtain ⟨y, hy, rfl⟩ := hr
      obtain ⟨s, hs, rfl⟩ := List.mem_map.mp hd
      have e := atI_nat (nats_get (xs := ps) (ht s hs))
      have ee : dcElt3 [.v (.str w), .v (.tuple (nats t)), .v (Ms.perm ps).d, .v (.int (s : Nat)), y4] = .ok (pmD ps (.int (s : Nat))) [.v (.str w), .v (.tuple (nats t)), .v (Ms.perm ps).d, .v (.int (s : Nat)), y4] := by
        simp [dcElt3, pmD, Ms.d, fnOf, sSeq, sSetX, xV, xL, dCall, aV, aIo, aNil, dVar, M.bind, Res.bind, M.ret, M.opt, reso, nodupB, ioIx, argsSl, backSl, tSetX, lLst, aBind, allV, dC, sizeLine_eq, sFor, iSeq, items, sRet, sIf, dtOr, dtNot, dtAnd, asB, dIsi, dIsi2, isB, tyN, dBin, two, oV, oN, dFx, xFn, aO, resA, fLen, fNe_int, fEq_int, fNe_bool, fEq_bool, fEq_none, fEq_nil, fLe, fGt, fGe, fCmp, dFz, fTuple, sNil, sDrop, dChain, dAnd, dNot, Sl.own, Sl.put, dGen, genB, lLc, lcB, iEnZip, TW.iEnum, gT, gLen, gsC, gsN, sAsg, tAsgG, gN_eq, tSet_eq, tSetL_eq, noIo_eq, wipeR, nio_un, nio_v, nio_l, fInt, fSub, fAdd, xBin, fIx, xSl, pAt, pNo, fSl, dIf, fIs, isNone, unwipe_eq, nio_wp, sh_int, sh_bool, sh_none, eqv_int, eqv_bool, eqv_none, atI1, e, List.getD, ht s hs]
      exact ⟨by simp [noIo_eq, hy], [.v (.str w), .v (.tuple (nats t)), .v (Ms.perm ps).d, .v (.int (s : Nat)), y4], [.v (.str w), .v (.tuple (nats t)), .v (Ms.perm ps).d, .v (.int (s : Nat)), y4], [.v (.str w), .v (.tuple (nats t)), .v (Ms.perm ps).d, .v (.int (s : Nat)), y4], by simp [gN_eq, wipeR, nio], rfl, ee, .v (.int (s : Nat)), rfl, rfl⟩)
  have hn : noIo [.v (.str w), .v (.tuple (nats t)), .v (Ms.perm ps).d, z, y4] [3] = true := by simp [noIo_eq, hz2]
  have ei : (iSeq (dVar 1)) [.v (.str w), .v (.tuple (nats t)), .v (Ms.perm ps).d, y, y4] = .ok (nats t) [.v (.str w), .v (.tuple (nats t)), .v (Ms.perm ps).d, y, y4] := by simp [fnOf, sSeq, sSetX, xV, xL, dCall, aV, aIo, aNil, dVar, M.bind, Res.bind, M.ret, M.opt, reso, nodupB, ioIx, argsSl, backSl, tSetX, lLst, aBind, allV, dC, sizeLine_eq, sFor, iSeq, items, sRet, sIf, dtOr, dtNot, dtAnd, asB, dIsi, dIsi2, isB, tyN, dBin, two, oV, oN, dFx, xFn, aO, resA, fLen, fNe_int, fEq_int, fNe_bool, fEq_bool, fEq_none, fEq_nil, fLe, fGt, fGe, fCmp, dFz, fTuple, sNil, sDrop, dChain, dAnd, dNot, Sl.own, Sl.put, dGen, genB, lLc, lcB, iEnZip, TW.iEnum, gT, gLen, gsC, gsN, sAsg, tAsgG, gN_eq, tSet_eq, tSetL_eq, noIo_eq, wipeR, nio_un, nio_v, nio_l, fInt, fSub, fAdd, xBin, fIx, xSl, pAt, pNo, fSl, dIf, fIs, isNone, unwipe_eq, nio_wp, sh_int, sh_bool, sh_none, eqv_int, eqv_bool, eqv_none]
  have em : (nats t).map (pmD ps) = nats (t.map fun s => ps.getD s 0) := by
    simp [nats, pmD, Function.comp_def]
  rw [List.nil_append, em] at q
  refine ⟨wp y, nio_wp _, ?_⟩
  unfold dcLc3
  rw [lLc_ok ei, lcB_ok (sizeLine_le (by simp [nats]; omega)) q hn]
  simp [unwipe_eq]

def dK (s : Str) : M Bool := (dBin fEq (oN 3) (oV (dC (.str s)))).bind asB
def lK (s : Str) : M Bool := (dBin fEq (oV (dBin fIx (oN 2) (oV (dC (.int 0))))) (oV (dC (.str s)))).bind asB
def dW : M Bool := (dBin fEq (oN 0) (oV (dC (.str "relabel")))).bind asB
def dNH : M Bool := (dBin (fIn true) (oN 0) (oV (dC con_HIDDEN))).bind asB
def lH : M Bool := (dBin (fIn false) (oN 0) (oV (dFz (lLst (aV (dC (.str "in")) (aV (dC (.str "inout")) aNil)))))).bind asB
def lCB : M Bool := (dBin (fIn false) (oV (dBin fIx (oN 2) (oV (dC (.int 0))))) (oV (dFz (lLst (aV (dC (.str "chop")) (aV (dC (.str "behead")) aNil)))))).bind asB
def rT : M PyData := dFx (xIf dW (xFn fTuple (aO (oV (dFz dcLc4)) aNil)) (xV (dRevT (dVar 1))))
def rC : M PyData := dFx (xSl (oN 1) pNo (pAt (dNeg (dC (.int 1)))))
def rB : M PyData := dFx (xSl (oN 1) (pAt (dC (.int 1))) pNo)
def rF : M PyData := dFx (xBin fAdd (oV (dTup (aV (dBin fIx (oN 2) (oV (dC (.int 1)))) aNil))) (oN 1))
def rP : M PyData := dFx (xBin fAdd (oN 1) (oV (dTup (aV (dBin fIx (oN 2) (oV (dC (.int 1)))) aNil))))
def rK : M PyData := dFx (xBin fAdd (oV (dFx (xSl (oN 1) pNo (pAt (dBin fIx (oN 2) (oV (dC (.int 2)))))))) (oV (dFx (xSl (oN 1) (pAt (dFx (xBin fAdd (oV (dBin fIx (oN 2) (oV (dC (.int 2))))) (oV (dC (.int 1)))))) pNo))))
def rH : M PyData := dFx (xBin fAdd (oV (dFx (xBin fAdd (oV (dFx (xSl (oN 1) pNo (pAt (dBin fIx (oN 2) (oV (dC (.int 2)))))))) (oV (dTup (aV (dBin fIx (oN 2) (oV (dC (.int 1)))) aNil)))))) (oV (dFx (xSl (oN 1) (pAt (dBin fIx (oN 2) (oV (dC (.int 2))))) pNo))))
def qT : M PyData := dFx (xFn fTuple (aO (oV (dFz dcLc3)) aNil))
def qR : M PyData := dRevT (dVar 1)
def qC : M PyData := dFx (xIf (lK "chop") (xSl (oN 1) pNo (pAt (dNeg (dC (.int 1))))) (xSl (oN 1) (pAt (dC (.int 1))) pNo))
def qP : M PyData := dFx (xBin fAdd (oV (dFx (xBin fAdd (oV (dFx (xSl (oN 1) pNo (pAt (dVar 4))))) (oV (dTup (aV (dBin fIx (oN 2) (oV (dC (.int 1)))) aNil)))))) (oV (dFx (xSl (oN 1) (pAt (dVar 4)) pNo))))
def q4 : M Fl := sSetX 4 (xIf (lK "put") (xFn fLen (aO (oN 1) aNil)) (xV (dC (.int 0))))
def q5 : M Fl := sSetX 4 (xV (dBin fIx (oN 2) (oV (dC (.int 2)))))
theorem done_eq : D_done = fnOf 3 5 (sSeq (sSetX 3 (xV (dBin fIx (oN 2) (oV (dC (.int 0)))))) (sSeq (sIf (dK "turn") (sRet rT) sNil) (sSeq (sIf (dK "chop") (sRet rC) sNil) (sSeq (sIf (dK "behead") (sRet rB) sNil) (sSeq (sIf (dK "front") (sRet rF) sNil) (sSeq (sIf dNH (sRet rP) sNil) (sSeq (sIf (dK "take") (sRet rK) sNil) (sRet rH)))))))) := rfl
theorem law_done_eq : D__law_done = fnOf 3 5 (sSeq (sIf (dtAnd dW (lK "turn")) (sRet qT) sNil) (sSeq (sIf (lK "turn") (sRet qR) sNil) (sSeq (sIf lCB (sRet qC) sNil) (sSeq (sIf (lK "take") (sRet rK) sNil) (sSeq q4 (sSeq (sIf lH q5 sNil) (sRet qP))))))) := rfl
section
variable {w : Str} {t : List Nat} {d : PyData} {y3 y4 : Sl} {k : Str} {rest : List PyData}
theorem dK_ok {s : Str} (hk : k ∈ kk6) (hs : s ∈ kk6) : dK s [.v (.str w), .v (.tuple (nats t)), .v d, .v (.str k), y4] = .ok (decide (k = s)) [.v (.str w), .v (.tuple (nats t)), .v d, .v (.str k), y4] := by
  have e := eqK hk hs
  simp [dK, fnOf, sSeq, sSetX, xV, xL, dCall, aV, aIo, aNil, dVar, M.bind, Res.bind, M.ret, M.opt, reso, nodupB, ioIx, argsSl, backSl, tSetX, lLst, aBind, allV, dC, sizeLine_eq, sFor, iSeq, items, sRet, sIf, dtOr, dtNot, dtAnd, asB, dIsi, dIsi2, isB, tyN, dBin, two, oV, oN, dFx, xFn, aO, resA, fLen, fNe_int, fEq_int, fNe_bool, fEq_bool, fEq_none, fEq_nil, fLe, fGt, fGe, fCmp, dFz, fTuple, sNil, sDrop, dChain, dAnd, dNot, Sl.own, Sl.put, dGen, genB, lLc, lcB, iEnZip, TW.iEnum, gT, gLen, gsC, gsN, sAsg, tAsgG, gN_eq, tSet_eq, tSetL_eq, noIo_eq, wipeR, nio_un, nio_v, nio_l, fInt, fSub, fAdd, xBin, fIx, xSl, pAt, pNo, fSl, dIf, fIs, isNone, unwipe_eq, nio_wp, sh_int, sh_bool, sh_none, eqv_int, eqv_bool, eqv_none, e]
theorem lK_ok {s : Str} (hk : k ∈ kk6) (hs : s ∈ kk6) : lK s [.v (.str w), .v (.tuple (nats t)), .v (.tuple (.str k :: rest)), y3, y4] = .ok (decide (k = s)) [.v (.str w), .v (.tuple (nats t)), .v (.tuple (.str k :: rest)), y3, y4] := by
  have e := eqK hk hs
  simp [lK, fnOf, sSeq, sSetX, xV, xL, dCall, aV, aIo, aNil, dVar, M.bind, Res.bind, M.ret, M.opt, reso, nodupB, ioIx, argsSl, backSl, tSetX, lLst, aBind, allV, dC, sizeLine_eq, sFor, iSeq, items, sRet, sIf, dtOr, dtNot, dtAnd, asB, dIsi, dIsi2, isB, tyN, dBin, two, oV, oN, dFx, xFn, aO, resA, fLen, fNe_int, fEq_int, fNe_bool, fEq_bool, fEq_none, fEq_nil, fLe, fGt, fGe, fCmp, dFz, fTuple, sNil, sDrop, dChain, dAnd, dNot, Sl.own, Sl.put, dGen, genB, lLc, lcB, iEnZip, TW.iEnum, gT, gLen, gsC, gsN, sAsg, tAsgG, gN_eq, tSet_eq, tSetL_eq, noIo_eq, wipeR, nio_un, nio_v, nio_l, fInt, fSub, fAdd, xBin, fIx, xSl, pAt, pNo, fSl, dIf, fIs, isNone, unwipe_eq, nio_wp, sh_int, sh_bool, sh_none, eqv_int, eqv_bool, eqv_none, atI0, e]
theorem dW_ok (hw : w ∈ wnames) : dW [.v (.str w), .v (.tuple (nats t)), .v d, y3, y4] = .ok (decide (w = "relabel")) [.v (.str w), .v (.tuple (nats t)), .v d, y3, y4] := by
  have e := eqR hw
  simp [dW, fnOf, sSeq, sSetX, xV, xL, dCall, aV, aIo, aNil, dVar, M.bind, Res.bind, M.ret, M.opt, reso, nodupB, ioIx, argsSl, backSl, tSetX, lLst, aBind, allV, dC, sizeLine_eq, sFor, iSeq, items, sRet, sIf, dtOr, dtNot, dtAnd, asB, dIsi, dIsi2, isB, tyN, dBin, two, oV, oN, dFx, xFn, aO, resA, fLen, fNe_int, fEq_int, fNe_bool, fEq_bool, fEq_none, fEq_nil, fLe, fGt, fGe, fCmp, dFz, fTuple, sNil, sDrop, dChain, dAnd, dNot, Sl.own, Sl.put, dGen, genB, lLc, lcB, iEnZip, TW.iEnum, gT, gLen, gsC, gsN, sAsg, tAsgG, gN_eq, tSet_eq, tSetL_eq, noIo_eq, wipeR, nio_un, nio_v, nio_l, fInt, fSub, fAdd, xBin, fIx, xSl, pAt, pNo, fSl, dIf, fIs, isNone, unwipe_eq, nio_wp, sh_int, sh_bool, sh_none, eqv_int, eqv_bool, eqv_none, e]
theorem dNH_ok (hw : w ∈ wnames) : dNH [.v (.str w), .v (.tuple (nats t)), .v d, y3, y4] = .ok (!hid w) [.v (.str w), .v (.tuple (nats t)), .v d, y3, y4] := by
  have e := hidN hw
  simp [dNH, fnOf, sSeq, sSetX, xV, xL, dCall, aV, aIo, aNil, dVar, M.bind, Res.bind, M.ret, M.opt, reso, nodupB, ioIx, argsSl, backSl, tSetX, lLst, aBind, allV, dC, sizeLine_eq, sFor, iSeq, items, sRet, sIf, dtOr, dtNot, dtAnd, asB, dIsi, dIsi2, isB, tyN, dBin, two, oV, oN, dFx, xFn, aO, resA, fLen, fNe_int, fEq_int, fNe_bool, fEq_bool, fEq_none, fEq_nil, fLe, fGt, fGe, fCmp, dFz, fTuple, sNil, sDrop, dChain, dAnd, dNot, Sl.own, Sl.put, dGen, genB, lLc, lcB, iEnZip, TW.iEnum, gT, gLen, gsC, gsN, sAsg, tAsgG, gN_eq, tSet_eq, tSetL_eq, noIo_eq, wipeR, nio_un, nio_v, nio_l, fInt, fSub, fAdd, xBin, fIx, xSl, pAt, pNo, fSl, dIf, fIs, isNone, unwipe_eq, nio_wp, sh_int, sh_bool, sh_none, eqv_int, eqv_bool, eqv_none, e]
theorem lH_ok (hw : w ∈ wnames) : lH [.v (.str w), .v (.tuple (nats t)), .v d, y3, y4] = .ok (hid w) [.v (.str w), .v (.tuple (nats t)), .v d, y3, y4] := by
  have e := hidL hw
  simp [lH, fnOf, sSeq, sSetX, xV, xL, dCall, aV, aIo, aNil, dVar, M.bind, Res.bind, M.ret, M.opt, reso, nodupB, ioIx, argsSl, backSl, tSetX, lLst, aBind, allV, dC, sizeLine_eq, sFor, iSeq, items, sRet, sIf, dtOr, dtNot, dtAnd, asB, dIsi, dIsi2, isB, tyN, dBin, two, oV, oN, dFx, xFn, aO, resA, fLen, fNe_int, fEq_int, fNe_bool, fEq_bool, fEq_none, fEq_nil, fLe, fGt, fGe, fCmp, dFz, fTuple, sNil, sDrop, dChain, dAnd, dNot, Sl.own, Sl.put, dGen, genB, lLc, lcB, iEnZip, TW.iEnum, gT, gLen, gsC, gsN, sAsg, tAsgG, gN_eq, tSet_eq, tSetL_eq, noIo_eq, wipeR, nio_un, nio_v, nio_l, fInt, fSub, fAdd, xBin, fIx, xSl, pAt, pNo, fSl, dIf, fIs, isNone, unwipe_eq, nio_wp, sh_int, sh_bool, sh_none, eqv_int, eqv_bool, eqv_none, e]
theorem lCB_ok (hk : k ∈ kk6) : lCB [.v (.str w), .v (.tuple (nats t)), .v (.tuple (.str k :: rest)), y3, y4] = .ok (cbB k) [.v (.str w), .v (.tuple (nats t)), .v (.tuple (.str k :: rest)), y3, y4] := by
  have e := cbI hk
  simp [lCB, fnOf, sSeq, sSetX, xV, xL, dCall, aV, aIo, aNil, dVar, M.bind, Res.bind, M.ret, M.opt, reso, nodupB, ioIx, argsSl, backSl, tSetX, lLst, aBind, allV, dC, sizeLine_eq, sFor, iSeq, items, sRet, sIf, dtOr, dtNot, dtAnd, asB, dIsi, dIsi2, isB, tyN, dBin, two, oV, oN, dFx, xFn, aO, resA, fLen, fNe_int, fEq_int, fNe_bool, fEq_bool, fEq_none, fEq_nil, fLe, fGt, fGe, fCmp, dFz, fTuple, sNil, sDrop, dChain, dAnd, dNot, Sl.own, Sl.put, dGen, genB, lLc, lcB, iEnZip, TW.iEnum, gT, gLen, gsC, gsN, sAsg, tAsgG, gN_eq, tSet_eq, tSetL_eq, noIo_eq, wipeR, nio_un, nio_v, nio_l, fInt, fSub, fAdd, xBin, fIx, xSl, pAt, pNo, fSl, dIf, fIs, isNone, unwipe_eq, nio_wp, sh_int, sh_bool, sh_none, eqv_int, eqv_bool, eqv_none, atI0, e]
theorem d1_ok : (sSetX 3 (xV (dBin fIx (oN 2) (oV (dC (.int 0)))))) [.v (.str w), .v (.tuple (nats t)), .v (.tuple (.str k :: rest)), .un, .un] = .ok .nx [.v (.str w), .v (.tuple (nats t)), .v (.tuple (.str k :: rest)), .v (.str k), .un] := by
  simp [fnOf, sSeq, sSetX, xV, xL, dCall, aV, aIo, aNil, dVar, M.bind, Res.bind, M.ret, M.opt, reso, nodupB, ioIx, argsSl, backSl, tSetX, lLst, aBind, allV, dC, sizeLine_eq, sFor, iSeq, items, sRet, sIf, dtOr, dtNot, dtAnd, asB, dIsi, dIsi2, isB, tyN, dBin, two, oV, oN, dFx, xFn, aO, resA, fLen, fNe_int, fEq_int, fNe_bool, fEq_bool, fEq_none, fEq_nil, fLe, fGt, fGe, fCmp, dFz, fTuple, sNil, sDrop, dChain, dAnd, dNot, Sl.own, Sl.put, dGen, genB, lLc, lcB, iEnZip, TW.iEnum, gT, gLen, gsC, gsN, sAsg, tAsgG, gN_eq, tSet_eq, tSetL_eq, noIo_eq, wipeR, nio_un, nio_v, nio_l, fInt, fSub, fAdd, xBin, fIx, xSl, pAt, pNo, fSl, dIf, fIs, isNone, unwipe_eq, nio_wp, sh_int, sh_bool, sh_none, eqv_int, eqv_bool, eqv_none, atI0]
theorem dF {s : Str} {R : M Fl} (hk : k ∈ kk6) (hs : s ∈ kk6) (h : decide (k = s) = false) : sIf (dK s) R sNil [.v (.str w), .v (.tuple (nats t)), .v d, .v (.str k), y4] = .ok .nx [.v (.str w), .v (.tuple (nats t)), .v d, .v (.str k), y4] := by
  have e := dK_ok (w := w) (t := t) (d := d) (y4 := y4) hk hs
  rw [h] at e
  exact sIf_no e
theorem dT {s : Str} {R : M Fl} (hk : k ∈ kk6) (hs : s ∈ kk6) (h : decide (k = s) = true) : sIf (dK s) R sNil [.v (.str w), .v (.tuple (nats t)), .v d, .v (.str k), y4] = R [.v (.str w), .v (.tuple (nats t)), .v d, .v (.str k), y4] := by
  have e := dK_ok (w := w) (t := t) (d := d) (y4 := y4) hk hs
  rw [h] at e
  exact sIf_t e
theorem lF {s : Str} {R : M Fl} (hk : k ∈ kk6) (hs : s ∈ kk6) (h : decide (k = s) = false) : sIf (lK s) R sNil [.v (.str w), .v (.tuple (nats t)), .v (.tuple (.str k :: rest)), y3, y4] = .ok .nx [.v (.str w), .v (.tuple (nats t)), .v (.tuple (.str k :: rest)), y3, y4] := by
  have e := lK_ok (w := w) (t := t) (y3 := y3) (y4 := y4) (rest := rest) hk hs
  rw [h] at e
  exact sIf_no e
theorem lT {s : Str} {R : M Fl} (hk : k ∈ kk6) (hs : s ∈ kk6) (h : decide (k = s) = true) : sIf (lK s) R sNil [.v (.str w), .v (.tuple (nats t)), .v (.tuple (.str k :: rest)), y3, y4] = R [.v (.str w), .v (.tuple (nats t)), .v (.tuple (.str k :: rest)), y3, y4] := by
  have e := lK_ok (w := w) (t := t) (y3 := y3) (y4 := y4) (rest := rest) hk hs
  rw [h] at e
  exact sIf_t e
/-- the first of the law's tests: no turn of relabel -/
theorem lA {R : M Fl} (hw : w ∈ wnames) (hk : k ∈ kk6) (h : w = "relabel" → decide (k = "turn") = false) : sIf (dtAnd dW (lK "turn")) R sNil [.v (.str w), .v (.tuple (nats t)), .v (.tuple (.str k :: rest)), y3, y4] = .ok .nx [.v (.str w), .v (.tuple (nats t)), .v (.tuple (.str k :: rest)), y3, y4] := by
  have e := dW_ok (t := t) (d := .tuple (.str k :: rest)) (y3 := y3) (y4 := y4) hw
  by_cases hr : w = "relabel"
  · have e2 := lK_ok (w := w) (t := t) (y3 := y3) (y4 := y4) (rest := rest) (s := "turn") hk (by decide +kernel)
    rw [decide_eq_true hr] at e
    rw [h hr] at e2
    exact sIf_no (and_t e e2)
  · rw [decide_eq_false hr] at e
    exact sIf_no (and_f e)
end
end K02

end
section
namespace K02
open PySem PySem.Spec PyProof.Rows L2 TW

section
variable {w : Str} {t : List Nat} {c i : Nat} {y3 y4 : Sl} {k : Str} {rest : List PyData}
theorem rd_inc {r : List Sl} {D : M PyData} {i : Nat} (h : D r = .ok (.int (i : Nat)) r) : dFx (xBin fAdd (oV D) (oV (dC (.int 1)))) r = .ok (.int ((i + 1 : Nat) : Int)) r := by
  simp [fnOf, sSeq, sSetX, xV, xL, dCall, aV, aIo, aNil, dVar, M.bind, Res.bind, M.ret, M.opt, reso, nodupB, ioIx, argsSl, backSl, tSetX, lLst, aBind, allV, dC, sizeLine_eq, sFor, iSeq, items, sRet, sIf, dtOr, dtNot, dtAnd, asB, dIsi, dIsi2, isB, tyN, dBin, two, oV, oN, dFx, xFn, aO, resA, fLen, fNe_int, fEq_int, fNe_bool, fEq_bool, fEq_none, fEq_nil, fLe, fGt, fGe, fCmp, dFz, fTuple, sNil, sDrop, dChain, dAnd, dNot, Sl.own, Sl.put, dGen, genB, lLc, lcB, iEnZip, TW.iEnum, gT, gLen, gsC, gsN, sAsg, tAsgG, gN_eq, tSet_eq, tSetL_eq, noIo_eq, wipeR, nio_un, nio_v, nio_l, fInt, fSub, fAdd, xBin, fIx, xSl, pAt, pNo, fSl, dIf, fIs, isNone, unwipe_eq, nio_wp, sh_int, sh_bool, sh_none, eqv_int, eqv_bool, eqv_none, h]
theorem q4_t : q4 [.v (.str w), .v (.tuple (nats t)), .v (.tuple (.str "put" :: rest)), y3, .un] = .ok .nx [.v (.str w), .v (.tuple (nats t)), .v (.tuple (.str "put" :: rest)), y3, .v (.int (t.length : Nat))] := by
  have e := lK_ok (w := w) (t := t) (y3 := y3) (y4 := .un) (rest := rest) (k := "put") (s := "put") (by decide +kernel) (by decide +kernel)
  rw [show decide (("put" : Str) = "put") = true by decide +kernel] at e
  simp [q4, xIf, fnOf, sSeq, sSetX, xV, xL, dCall, aV, aIo, aNil, dVar, M.bind, Res.bind, M.ret, M.opt, reso, nodupB, ioIx, argsSl, backSl, tSetX, lLst, aBind, allV, dC, sizeLine_eq, sFor, iSeq, items, sRet, sIf, dtOr, dtNot, dtAnd, asB, dIsi, dIsi2, isB, tyN, dBin, two, oV, oN, dFx, xFn, aO, resA, fLen, fNe_int, fEq_int, fNe_bool, fEq_bool, fEq_none, fEq_nil, fLe, fGt, fGe, fCmp, dFz, fTuple, sNil, sDrop, dChain, dAnd, dNot, Sl.own, Sl.put, dGen, genB, lLc, lcB, iEnZip, TW.iEnum, gT, gLen, gsC, gsN, sAsg, tAsgG, gN_eq, tSet_eq, tSetL_eq, noIo_eq, wipeR, nio_un, nio_v, nio_l, fInt, fSub, fAdd, xBin, fIx, xSl, pAt, pNo, fSl, dIf, fIs, isNone, unwipe_eq, nio_wp, sh_int, sh_bool, sh_none, eqv_int, eqv_bool, eqv_none, e, nats_len]
theorem q4_0 (hk : k ∈ kk6) (h : decide (k = "put") = false) : q4 [.v (.str w), .v (.tuple (nats t)), .v (.tuple (.str k :: rest)), y3, .un] = .ok .nx [.v (.str w), .v (.tuple (nats t)), .v (.tuple (.str k :: rest)), y3, .v (.int ((0 : Nat) : Int))] := by
  have e := lK_ok (w := w) (t := t) (y3 := y3) (y4 := .un) (rest := rest) (k := k) (s := "put") hk (by decide +kernel)
  rw [h] at e
  simp [q4, xIf, fnOf, sSeq, sSetX, xV, xL, dCall, aV, aIo, aNil, dVar, M.bind, Res.bind, M.ret, M.opt, reso, nodupB, ioIx, argsSl, backSl, tSetX, lLst, aBind, allV, dC, sizeLine_eq, sFor, iSeq, items, sRet, sIf, dtOr, dtNot, dtAnd, asB, dIsi, dIsi2, isB, tyN, dBin, two, oV, oN, dFx, xFn, aO, resA, fLen, fNe_int, fEq_int, fNe_bool, fEq_bool, fEq_none, fEq_nil, fLe, fGt, fGe, fCmp, dFz, fTuple, sNil, sDrop, dChain, dAnd, dNot, Sl.own, Sl.put, dGen, genB, lLc, lcB, iEnZip, TW.iEnum, gT, gLen, gsC, gsN, sAsg, tAsgG, gN_eq, tSet_eq, tSetL_eq, noIo_eq, wipeR, nio_un, nio_v, nio_l, fInt, fSub, fAdd, xBin, fIx, xSl, pAt, pNo, fSl, dIf, fIs, isNone, unwipe_eq, nio_wp, sh_int, sh_bool, sh_none, eqv_int, eqv_bool, eqv_none, e]
theorem q5_ok {n : PyData} : q5 [.v (.str w), .v (.tuple (nats t)), .v (ext k c i), y3, .v n] = .ok .nx [.v (.str w), .v (.tuple (nats t)), .v (ext k c i), y3, .v (.int (i : Nat))] := by
  simp [q5, ext, fnOf, sSeq, sSetX, xV, xL, dCall, aV, aIo, aNil, dVar, M.bind, Res.bind, M.ret, M.opt, reso, nodupB, ioIx, argsSl, backSl, tSetX, lLst, aBind, allV, dC, sizeLine_eq, sFor, iSeq, items, sRet, sIf, dtOr, dtNot, dtAnd, asB, dIsi, dIsi2, isB, tyN, dBin, two, oV, oN, dFx, xFn, aO, resA, fLen, fNe_int, fEq_int, fNe_bool, fEq_bool, fEq_none, fEq_nil, fLe, fGt, fGe, fCmp, dFz, fTuple, sNil, sDrop, dChain, dAnd, dNot, Sl.own, Sl.put, dGen, genB, lLc, lcB, iEnZip, TW.iEnum, gT, gLen, gsC, gsN, sAsg, tAsgG, gN_eq, tSet_eq, tSetL_eq, noIo_eq, wipeR, nio_un, nio_v, nio_l, fInt, fSub, fAdd, xBin, fIx, xSl, pAt, pNo, fSl, dIf, fIs, isNone, unwipe_eq, nio_wp, sh_int, sh_bool, sh_none, eqv_int, eqv_bool, eqv_none, atI2]
theorem dn_chop (hw : w ∈ wnames) : (∃ out, D_done [.v (.str w), .v (.tuple (nats t)), .v ((Ms.one "chop" c).d)] = .ok (.tuple (nats (t.take (t.length - 1)))) out) ∧ (∃ out, D__law_done [.v (.str w), .v (.tuple (nats t)), .v ((Ms.one "chop" c).d)] = .ok (.tuple (nats (t.take (t.length - 1)))) out) := by
  rw [done_eq, law_done_eq]
  refine ⟨⟨_, fnOf_rt rfl ((sSeq_nx (d1_ok (w := w) (t := t) (k := "chop") (rest := [.int (c : Nat)]))).trans ((sSeq_nx (dF (by decide +kernel) (by decide +kernel) (by decide +kernel))).trans (sSeq_rt ((dT (by decide +kernel) (by decide +kernel) (by decide +kernel)).trans (sRet_ok (rd_init rfl))))))⟩, ?_⟩
  · have e := lK_ok (w := w) (t := t) (y3 := .un) (y4 := .un) (k := "chop") (rest := [.int (c : Nat)]) (s := "chop") (by decide +kernel) (by decide +kernel)
    rw [show decide (("chop" : Str) = "chop") = true by decide +kernel] at e
    have eCB := lCB_ok (w := w) (t := t) (k := "chop") (rest := [.int (c : Nat)]) (y3 := .un) (y4 := .un) (by decide +kernel)
    rw [show cbB "chop" = true by decide +kernel] at eCB
    have q : qC [.v (.str w), .v (.tuple (nats t)), .v (.tuple (.str "chop" :: [.int (c : Nat)])), .un, .un] = .ok (.tuple (nats (t.take (t.length - 1)))) [.v (.str w), .v (.tuple (nats t)), .v (.tuple (.str "chop" :: [.int (c : Nat)])), .un, .un] := by
      have q := rd_init (r := [.v (.str w), .v (.tuple (nats t)), .v (.tuple (.str "chop" :: [.int (c : Nat)])), .un, .un]) (i := 1) (t := t) rfl
      unfold qC
      simp only [dFx, xIf, M.bind, Res.bind, e, if_true] at q ⊢
      exact q
    exact ⟨_, fnOf_rt rfl ((sSeq_nx (lA (w := w) (t := t) (k := "chop") (rest := [.int (c : Nat)]) (y3 := .un) (y4 := .un) hw (by decide +kernel) (fun _ => (by decide +kernel)))).trans ((sSeq_nx (lF (by decide +kernel) (by decide +kernel) (by decide +kernel))).trans (sSeq_rt ((sIf_t eCB).trans (sRet_ok q)))))⟩
theorem dn_beh (hw : w ∈ wnames) : (∃ out, D_done [.v (.str w), .v (.tuple (nats t)), .v ((Ms.one "behead" c).d)] = .ok (.tuple (nats (t.drop 1))) out) ∧ (∃ out, D__law_done [.v (.str w), .v (.tuple (nats t)), .v ((Ms.one "behead" c).d)] = .ok (.tuple (nats (t.drop 1))) out) := by
  rw [done_eq, law_done_eq]
  refine ⟨⟨_, fnOf_rt rfl ((sSeq_nx (d1_ok (w := w) (t := t) (k := "behead") (rest := [.int (c : Nat)]))).trans ((sSeq_nx (dF (by decide +kernel) (by decide +kernel) (by decide +kernel))).trans ((sSeq_nx (dF (by decide +kernel) (by decide +kernel) (by decide +kernel))).trans (sSeq_rt ((dT (by decide +kernel) (by decide +kernel) (by decide +kernel)).trans (sRet_ok (rd_drop (n := 1) rfl rfl)))))))⟩, ?_⟩
  · have e := lK_ok (w := w) (t := t) (y3 := .un) (y4 := .un) (k := "behead") (rest := [.int (c : Nat)]) (s := "chop") (by decide +kernel) (by decide +kernel)
    rw [show decide (("behead" : Str) = "chop") = false by decide +kernel] at e
    have eCB := lCB_ok (w := w) (t := t) (k := "behead") (rest := [.int (c : Nat)]) (y3 := .un) (y4 := .un) (by decide +kernel)
    rw [show cbB "behead" = true by decide +kernel] at eCB
    have q : qC [.v (.str w), .v (.tuple (nats t)), .v (.tuple (.str "behead" :: [.int (c : Nat)])), .un, .un] = .ok (.tuple (nats (t.drop 1))) [.v (.str w), .v (.tuple (nats t)), .v (.tuple (.str "behead" :: [.int (c : Nat)])), .un, .un] := by
      have q := rd_drop (r := [.v (.str w), .v (.tuple (nats t)), .v (.tuple (.str "behead" :: [.int (c : Nat)])), .un, .un]) (i := 1) (n := 1) (t := t) (P := dC (.int 1)) rfl rfl
      unfold qC
      simp only [dFx, xIf, M.bind, Res.bind, e, Bool.false_eq_true, if_false] at q ⊢
      exact q
    exact ⟨_, fnOf_rt rfl ((sSeq_nx (lA (w := w) (t := t) (k := "behead") (rest := [.int (c : Nat)]) (y3 := .un) (y4 := .un) hw (by decide +kernel) (fun _ => (by decide +kernel)))).trans ((sSeq_nx (lF (by decide +kernel) (by decide +kernel) (by decide +kernel))).trans (sSeq_rt ((sIf_t eCB).trans (sRet_ok q)))))⟩
theorem dn_front (hw : w ∈ wnames) (hh : hid w = false) (hz : t.length ≤ 500) : (∃ out, D_done [.v (.str w), .v (.tuple (nats t)), .v ((Ms.one "front" c).d)] = .ok (.tuple (nats (c :: t))) out) ∧ (∃ out, D__law_done [.v (.str w), .v (.tuple (nats t)), .v ((Ms.one "front" c).d)] = .ok (.tuple (nats (c :: t))) out) := by
  rw [done_eq, law_done_eq]
  refine ⟨⟨_, fnOf_rt rfl ((sSeq_nx (d1_ok (w := w) (t := t) (k := "front") (rest := [.int (c : Nat)]))).trans ((sSeq_nx (dF (by decide +kernel) (by decide +kernel) (by decide +kernel))).trans ((sSeq_nx (dF (by decide +kernel) (by decide +kernel) (by decide +kernel))).trans ((sSeq_nx (dF (by decide +kernel) (by decide +kernel) (by decide +kernel))).trans (sSeq_rt ((dT (by decide +kernel) (by decide +kernel) (by decide +kernel)).trans (sRet_ok (rd_add (oV_ok (rd_one (rd_ix rfl (atI1 _ _ _)))) (oN_ok rfl) (by simp <;> omega)))))))))⟩, ?_⟩
  · have e : c :: t = (t.take 0 ++ [c]) ++ t.drop 0 := by simp
    rw [e]
    have eCB := lCB_ok (w := w) (t := t) (k := "front") (rest := [.int (c : Nat)]) (y3 := .un) (y4 := .un) (by decide +kernel)
    rw [show cbB "front" = false by decide +kernel] at eCB
    have eH := lH_ok (w := w) (t := t) (d := .tuple (.str "front" :: [.int (c : Nat)])) (y3 := .un) (y4 := .v (.int ((0 : Nat) : Int))) hw
    rw [hh] at eH
    exact ⟨_, fnOf_rt rfl ((sSeq_nx (lA (w := w) (t := t) (k := "front") (rest := [.int (c : Nat)]) (y3 := .un) (y4 := .un) hw (by decide +kernel) (fun _ => (by decide +kernel)))).trans ((sSeq_nx (lF (by decide +kernel) (by decide +kernel) (by decide +kernel))).trans ((sSeq_nx (sIf_no eCB)).trans ((sSeq_nx (lF (by decide +kernel) (by decide +kernel) (by decide +kernel))).trans ((sSeq_nx (q4_0 (k := "front") (by decide +kernel) (by decide +kernel))).trans ((sSeq_nx (sIf_no eH)).trans (sRet_ok (rd_add (oV_ok (rd_add (oV_ok (rd_take (n := 0) rfl rfl)) (oV_ok (rd_one (rd_ix rfl (atI1 _ _ _)))) (by simp <;> omega))) (oV_ok (rd_drop (n := 0) rfl rfl)) (by simp <;> omega)))))))))⟩
theorem dn_put (hw : w ∈ wnames) (hh : hid w = false) (hz : t.length ≤ 500) : (∃ out, D_done [.v (.str w), .v (.tuple (nats t)), .v ((Ms.one "put" c).d)] = .ok (.tuple (nats (t ++ [c]))) out) ∧ (∃ out, D__law_done [.v (.str w), .v (.tuple (nats t)), .v ((Ms.one "put" c).d)] = .ok (.tuple (nats (t ++ [c]))) out) := by
  rw [done_eq, law_done_eq]
  constructor
  · skip
    have eNH := dNH_ok (w := w) (t := t) (d := .tuple (.str "put" :: [.int (c : Nat)])) (y3 := .v (.str "put")) (y4 := .un) hw
    rw [hh] at eNH
    exact ⟨_, fnOf_rt rfl ((sSeq_nx (d1_ok (w := w) (t := t) (k := "put") (rest := [.int (c : Nat)]))).trans ((sSeq_nx (dF (by decide +kernel) (by decide +kernel) (by decide +kernel))).trans ((sSeq_nx (dF (by decide +kernel) (by decide +kernel) (by decide +kernel))).trans ((sSeq_nx (dF (by decide +kernel) (by decide +kernel) (by decide +kernel))).trans ((sSeq_nx (dF (by decide +kernel) (by decide +kernel) (by decide +kernel))).trans (sSeq_rt ((sIf_t eNH).trans (sRet_ok (rd_add (oN_ok rfl) (oV_ok (rd_one (rd_ix rfl (atI1 _ _ _)))) (by simp <;> omega))))))))))⟩
  · have e : t ++ [c] = (t.take t.length ++ [c]) ++ t.drop t.length := by simp
    rw [e]
    have eCB := lCB_ok (w := w) (t := t) (k := "put") (rest := [.int (c : Nat)]) (y3 := .un) (y4 := .un) (by decide +kernel)
    rw [show cbB "put" = false by decide +kernel] at eCB
    have eH := lH_ok (w := w) (t := t) (d := .tuple (.str "put" :: [.int (c : Nat)])) (y3 := .un) (y4 := .v (.int (t.length : Nat))) hw
    rw [hh] at eH
    exact ⟨_, fnOf_rt rfl ((sSeq_nx (lA (w := w) (t := t) (k := "put") (rest := [.int (c : Nat)]) (y3 := .un) (y4 := .un) hw (by decide +kernel) (fun _ => (by decide +kernel)))).trans ((sSeq_nx (lF (by decide +kernel) (by decide +kernel) (by decide +kernel))).trans ((sSeq_nx (sIf_no eCB)).trans ((sSeq_nx (lF (by decide +kernel) (by decide +kernel) (by decide +kernel))).trans ((sSeq_nx (q4_t)).trans ((sSeq_nx (sIf_no eH)).trans (sRet_ok (rd_add (oV_ok (rd_add (oV_ok (rd_take (n := t.length) rfl rfl)) (oV_ok (rd_one (rd_ix rfl (atI1 _ _ _)))) (by simp <;> omega))) (oV_ok (rd_drop (n := t.length) rfl rfl)) (by simp <;> omega)))))))))⟩
theorem dn_putH (hw : w ∈ wnames) (hh : hid w = true) (hz : t.length ≤ 500) : (∃ out, D_done [.v (.str w), .v (.tuple (nats t)), .v (ext "put" c i)] = .ok (.tuple (nats ((t.take i ++ [c]) ++ t.drop i))) out) ∧ (∃ out, D__law_done [.v (.str w), .v (.tuple (nats t)), .v (ext "put" c i)] = .ok (.tuple (nats ((t.take i ++ [c]) ++ t.drop i))) out) := by
  rw [done_eq, law_done_eq]
  constructor
  · skip
    have eNH := dNH_ok (w := w) (t := t) (d := .tuple (.str "put" :: [.int (c : Nat), .int (i : Nat)])) (y3 := .v (.str "put")) (y4 := .un) hw
    rw [hh] at eNH
    exact ⟨_, fnOf_rt rfl ((sSeq_nx (d1_ok (w := w) (t := t) (k := "put") (rest := [.int (c : Nat), .int (i : Nat)]))).trans ((sSeq_nx (dF (by decide +kernel) (by decide +kernel) (by decide +kernel))).trans ((sSeq_nx (dF (by decide +kernel) (by decide +kernel) (by decide +kernel))).trans ((sSeq_nx (dF (by decide +kernel) (by decide +kernel) (by decide +kernel))).trans ((sSeq_nx (dF (by decide +kernel) (by decide +kernel) (by decide +kernel))).trans ((sSeq_nx (sIf_no eNH)).trans ((sSeq_nx (dF (by decide +kernel) (by decide +kernel) (by decide +kernel))).trans (sRet_ok (rd_add (oV_ok (rd_add (oV_ok (rd_take rfl (rd_ix rfl (atI2 _ _ _ _)))) (oV_ok (rd_one (rd_ix rfl (atI1 _ _ _)))) (by simp <;> omega))) (oV_ok (rd_drop rfl (rd_ix rfl (atI2 _ _ _ _)))) (by simp <;> omega))))))))))⟩
  · skip
    have eCB := lCB_ok (w := w) (t := t) (k := "put") (rest := [.int (c : Nat), .int (i : Nat)]) (y3 := .un) (y4 := .un) (by decide +kernel)
    rw [show cbB "put" = false by decide +kernel] at eCB
    have eH := lH_ok (w := w) (t := t) (d := .tuple (.str "put" :: [.int (c : Nat), .int (i : Nat)])) (y3 := .un) (y4 := .v (.int (t.length : Nat))) hw
    rw [hh] at eH
    exact ⟨_, fnOf_rt rfl ((sSeq_nx (lA (w := w) (t := t) (k := "put") (rest := [.int (c : Nat), .int (i : Nat)]) (y3 := .un) (y4 := .un) hw (by decide +kernel) (fun _ => (by decide +kernel)))).trans ((sSeq_nx (lF (by decide +kernel) (by decide +kernel) (by decide +kernel))).trans ((sSeq_nx (sIf_no eCB)).trans ((sSeq_nx (lF (by decide +kernel) (by decide +kernel) (by decide +kernel))).trans ((sSeq_nx (q4_t)).trans ((sSeq_nx ((sIf_t eH).trans (q5_ok (i := i)))).trans (sRet_ok (rd_add (oV_ok (rd_add (oV_ok (rd_take (n := i) rfl rfl)) (oV_ok (rd_one (rd_ix rfl (atI1 _ _ _)))) (by simp <;> omega))) (oV_ok (rd_drop (n := i) rfl rfl)) (by simp <;> omega)))))))))⟩
theorem dn_take (hw : w ∈ wnames) (hh : hid w = true) (hz : t.length ≤ 500) : (∃ out, D_done [.v (.str w), .v (.tuple (nats t)), .v (ext "take" c i)] = .ok (.tuple (nats (t.take i ++ t.drop (i + 1)))) out) ∧ (∃ out, D__law_done [.v (.str w), .v (.tuple (nats t)), .v (ext "take" c i)] = .ok (.tuple (nats (t.take i ++ t.drop (i + 1)))) out) := by
  rw [done_eq, law_done_eq]
  constructor
  · skip
    have eNH := dNH_ok (w := w) (t := t) (d := .tuple (.str "take" :: [.int (c : Nat), .int (i : Nat)])) (y3 := .v (.str "take")) (y4 := .un) hw
    rw [hh] at eNH
    exact ⟨_, fnOf_rt rfl ((sSeq_nx (d1_ok (w := w) (t := t) (k := "take") (rest := [.int (c : Nat), .int (i : Nat)]))).trans ((sSeq_nx (dF (by decide +kernel) (by decide +kernel) (by decide +kernel))).trans ((sSeq_nx (dF (by decide +kernel) (by decide +kernel) (by decide +kernel))).trans ((sSeq_nx (dF (by decide +kernel) (by decide +kernel) (by decide +kernel))).trans ((sSeq_nx (dF (by decide +kernel) (by decide +kernel) (by decide +kernel))).trans ((sSeq_nx (sIf_no eNH)).trans (sSeq_rt ((dT (by decide +kernel) (by decide +kernel) (by decide +kernel)).trans (sRet_ok (rd_add (oV_ok (rd_take rfl (rd_ix rfl (atI2 _ _ _ _)))) (oV_ok (rd_drop rfl (rd_inc (rd_ix rfl (atI2 _ _ _ _))))) (by simp <;> omega)))))))))))⟩
  · skip
    have eCB := lCB_ok (w := w) (t := t) (k := "take") (rest := [.int (c : Nat), .int (i : Nat)]) (y3 := .un) (y4 := .un) (by decide +kernel)
    rw [show cbB "take" = false by decide +kernel] at eCB
    exact ⟨_, fnOf_rt rfl ((sSeq_nx (lA (w := w) (t := t) (k := "take") (rest := [.int (c : Nat), .int (i : Nat)]) (y3 := .un) (y4 := .un) hw (by decide +kernel) (fun _ => (by decide +kernel)))).trans ((sSeq_nx (lF (by decide +kernel) (by decide +kernel) (by decide +kernel))).trans ((sSeq_nx (sIf_no eCB)).trans (sSeq_rt ((lT (by decide +kernel) (by decide +kernel) (by decide +kernel)).trans (sRet_ok (rd_add (oV_ok (rd_take rfl (rd_ix rfl (atI2 _ _ _ _)))) (oV_ok (rd_drop rfl (rd_inc (rd_ix rfl (atI2 _ _ _ _))))) (by simp <;> omega))))))))⟩
end
end K02

end
section
namespace K02
open PySem PySem.Spec PyProof.Rows L2 TW

section
variable {w : Str} {l : Nat} {t : List Nat} {X : List Ms} {c i : Nat} {d : PyData} {y3 y4 : Sl}
theorem rd_tup {L : M (List PyData)} {r r' : List Sl} {xs : List PyData} (h : L r = .ok xs r') : dFx (xFn fTuple (aO (oV (dFz L)) aNil)) r = .ok (.tuple xs) r' := by
  simp [fnOf, sSeq, sSetX, xV, xL, dCall, aV, aIo, aNil, dVar, M.bind, Res.bind, M.ret, M.opt, reso, nodupB, ioIx, argsSl, backSl, tSetX, lLst, aBind, allV, dC, sizeLine_eq, sFor, iSeq, items, sRet, sIf, dtOr, dtNot, dtAnd, asB, dIsi, dIsi2, isB, tyN, dBin, two, oV, oN, dFx, xFn, aO, resA, fLen, fNe_int, fEq_int, fNe_bool, fEq_bool, fEq_none, fEq_nil, fLe, fGt, fGe, fCmp, dFz, fTuple, sNil, sDrop, dChain, dAnd, dNot, Sl.own, Sl.put, dGen, genB, lLc, lcB, iEnZip, TW.iEnum, gT, gLen, gsC, gsN, sAsg, tAsgG, gN_eq, tSet_eq, tSetL_eq, noIo_eq, wipeR, nio_un, nio_v, nio_l, fInt, fSub, fAdd, xBin, fIx, xSl, pAt, pNo, fSl, dIf, fIs, isNone, unwipe_eq, nio_wp, sh_int, sh_bool, sh_none, eqv_int, eqv_bool, eqv_none, h]
theorem rd_rev {r : List Sl} {i : Nat} (h : r[i]? = some (.v (.tuple (nats t)))) : dRevT (dVar i) r = .ok (.tuple (nats t.reverse)) r := by
  simp [dRevT, fnOf, sSeq, sSetX, xV, xL, dCall, aV, aIo, aNil, dVar, M.bind, Res.bind, M.ret, M.opt, reso, nodupB, ioIx, argsSl, backSl, tSetX, lLst, aBind, allV, dC, sizeLine_eq, sFor, iSeq, items, sRet, sIf, dtOr, dtNot, dtAnd, asB, dIsi, dIsi2, isB, tyN, dBin, two, oV, oN, dFx, xFn, aO, resA, fLen, fNe_int, fEq_int, fNe_bool, fEq_bool, fEq_none, fEq_nil, fLe, fGt, fGe, fCmp, dFz, fTuple, sNil, sDrop, dChain, dAnd, dNot, Sl.own, Sl.put, dGen, genB, lLc, lcB, iEnZip, TW.iEnum, gT, gLen, gsC, gsN, sAsg, tAsgG, gN_eq, tSet_eq, tSetL_eq, noIo_eq, wipeR, nio_un, nio_v, nio_l, fInt, fSub, fAdd, xBin, fIx, xSl, pAt, pNo, fSl, dIf, fIs, isNone, unwipe_eq, nio_wp, sh_int, sh_bool, sh_none, eqv_int, eqv_bool, eqv_none, h, nats]
theorem dn_perm {ps : List Nat} (hz : t.length ≤ 500) (ht : ∀ s ∈ t, s < ps.length) : (∃ out, D_done [.v (.str "relabel"), .v (.tuple (nats t)), .v ((Ms.perm ps).d)] = .ok (.tuple (nats (t.map fun s => ps.getD s 0))) out) ∧ (∃ out, D__law_done [.v (.str "relabel"), .v (.tuple (nats t)), .v ((Ms.perm ps).d)] = .ok (.tuple (nats (t.map fun s => ps.getD s 0))) out) := by
  rw [done_eq, law_done_eq]
  constructor
  · obtain ⟨z, _, e⟩ := dcLc4_ok (w := "relabel") (x3 := .str "turn") (y := .un) (by omega) rfl ht
    have eW := dW_ok (w := "relabel") (t := t) (d := (Ms.perm ps).d) (y3 := .v (.str "turn")) (y4 := .un) (by decide +kernel)
    rw [show decide (("relabel" : Str) = "relabel") = true by decide +kernel] at eW
    have q := rd_tup e
    have q : rT [.v (.str "relabel"), .v (.tuple (nats t)), .v ((Ms.perm ps).d), .v (.str "turn"), .un] = .ok (.tuple (nats (t.map fun s => ps.getD s 0))) [.v (.str "relabel"), .v (.tuple (nats t)), .v ((Ms.perm ps).d), .v (.str "turn"), z] := by
      unfold rT
      simp only [dFx, xIf, M.bind, Res.bind, eW, if_true] at q ⊢
      exact q
    exact ⟨_, fnOf_rt rfl ((sSeq_nx (d1_ok (w := "relabel") (t := t) (k := "turn") (rest := [.tuple (nats ps)]))).trans (sSeq_rt ((dT (by decide +kernel) (by decide +kernel) (by decide +kernel)).trans (sRet_ok q))))⟩
  · obtain ⟨z, _, e⟩ := dcLc3_ok (w := "relabel") (y4 := .un) (y := .un) (by omega) rfl ht
    have eW := dW_ok (w := "relabel") (t := t) (d := (Ms.perm ps).d) (y3 := .un) (y4 := .un) (by decide +kernel)
    rw [show decide (("relabel" : Str) = "relabel") = true by decide +kernel] at eW
    have eK := lK_ok (w := "relabel") (t := t) (y3 := .un) (y4 := .un) (k := "turn") (rest := [.tuple (nats ps)]) (s := "turn") (by decide +kernel) (by decide +kernel)
    rw [show decide (("turn" : Str) = "turn") = true by decide +kernel] at eK
    exact ⟨_, fnOf_rt rfl (sSeq_rt ((sIf_t (and_t eW eK)).trans (sRet_ok (rd_tup e))))⟩
theorem dn_rev : (∃ out, D_done [.v (.str "reverse"), .v (.tuple (nats t)), .v (Ms.turn.d)] = .ok (.tuple (nats (t.reverse))) out) ∧ (∃ out, D__law_done [.v (.str "reverse"), .v (.tuple (nats t)), .v (Ms.turn.d)] = .ok (.tuple (nats (t.reverse))) out) := by
  rw [done_eq, law_done_eq]
  constructor
  · have eW := dW_ok (w := "reverse") (t := t) (d := Ms.turn.d) (y3 := .v (.str "turn")) (y4 := .un) (by decide +kernel)
    rw [show decide (("reverse" : Str) = "relabel") = false by decide +kernel] at eW
    have q := rd_rev (t := t) (r := [.v (.str "reverse"), .v (.tuple (nats t)), .v (Ms.turn.d), .v (.str "turn"), .un]) (i := 1) rfl
    have q : rT [.v (.str "reverse"), .v (.tuple (nats t)), .v (Ms.turn.d), .v (.str "turn"), .un] = .ok (.tuple (nats t.reverse)) [.v (.str "reverse"), .v (.tuple (nats t)), .v (Ms.turn.d), .v (.str "turn"), .un] := by
      unfold rT
      simp only [dFx, xIf, M.bind, Res.bind, eW, Bool.false_eq_true, if_false, xV, q, M.ret]
    exact ⟨_, fnOf_rt rfl ((sSeq_nx (d1_ok (w := "reverse") (t := t) (k := "turn") (rest := []))).trans (sSeq_rt ((dT (by decide +kernel) (by decide +kernel) (by decide +kernel)).trans (sRet_ok q))))⟩
  · exact ⟨_, fnOf_rt rfl ((sSeq_nx (lA (w := "reverse") (t := t) (k := "turn") (rest := []) (y3 := .un) (y4 := .un) (by decide +kernel) (by decide +kernel) (fun h => absurd h (by decide +kernel)))).trans (sSeq_rt ((lT (by decide +kernel) (by decide +kernel) (by decide +kernel)).trans (sRet_ok (rd_rev rfl)))))⟩
theorem done_law (g : WX w l X) (hz : t.length ≤ 500) (ht : ∀ s ∈ t, s < l) (hd : d ∈ edits w X t) : ∃ t' : List Nat, ((∃ out, D_done [.v (.str w), .v (.tuple (nats t)), .v d] = .ok (.tuple (nats t')) out) ∧ (∃ out, D__law_done [.v (.str w), .v (.tuple (nats t)), .v d] = .ok (.tuple (nats t')) out)) ∧ t'.length ≤ t.length + 1 ∧ ∀ s ∈ t', s < l := by
  obtain ⟨x, hx, hd⟩ := mem_edits.mp hd
  have ok := g.ok x hx
  have lt : ∀ (i : Nat), ∀ s ∈ t.take i, s < l := fun i s hs => ht s (List.mem_of_mem_take hs)
  have ld : ∀ (i : Nat), ∀ s ∈ t.drop i, s < l := fun i s hs => ht s (List.mem_of_mem_drop hs)
  cases hh : hid w with
  | true =>
    obtain ⟨k, c, rfl, hpt⟩ := hid_one g hh x hx
    simp only [msB, Bool.and_eq_true, decide_eq_true_eq] at ok
    have hc := ok.1.2
    obtain ⟨i, rfl, hi⟩ := (mem_edH hh).mp hd
    rcases hpt with rfl | rfl
    · refine ⟨_, dn_putH g.hw hh hz, by simp <;> omega, ?_⟩
      intro s hs
      simp only [List.mem_append, List.mem_singleton] at hs
      rcases hs with (hs | rfl) | hs
      · exact lt _ _ hs
      · exact hc
      · exact ld _ _ hs
    · refine ⟨_, dn_take g.hw hh hz, by simp <;> omega, ?_⟩
      intro s hs
      rcases List.mem_append.mp hs with hs | hs
      · exact lt _ _ hs
      · exact ld _ _ hs
  | false =>
    obtain ⟨rfl, _⟩ := (mem_edN hh).mp hd
    cases x with
    | perm ps =>
      simp only [msB, Bool.and_eq_true, decide_eq_true_eq, List.all_eq_true] at ok
      obtain ⟨⟨rfl, hl⟩, hp⟩ := ok
      have htp : ∀ s ∈ t, s < ps.length := fun s hs => by rw [hl]; exact ht s hs
      refine ⟨_, dn_perm hz htp, by simp, ?_⟩
      intro s hs
      obtain ⟨a, ha, rfl⟩ := List.mem_map.mp hs
      have := htp a ha
      rw [List.getD_eq_getElem?_getD, List.getElem?_eq_getElem this, Option.getD_some]
      exact hp _ (List.getElem_mem _)
    | turn =>
      simp only [msB, decide_eq_true_eq] at ok
      subst ok
      exact ⟨_, dn_rev, by simp, fun s hs => ht s (List.mem_reverse.mp hs)⟩
    | one k c =>
      simp only [msB, hh, Bool.and_eq_true, decide_eq_true_eq, Bool.false_eq_true, if_false, Bool.not_eq_true', decide_eq_false_iff_not] at ok
      obtain ⟨⟨hk, hc⟩, hnt⟩ := ok
      have hk : k = "put" ∨ k = "front" ∨ k = "chop" ∨ k = "behead" ∨ k = "take" := by simpa [kk] using hk
      rcases hk with rfl | rfl | rfl | rfl | rfl
      · refine ⟨_, dn_put g.hw hh hz, by simp, ?_⟩
        intro s hs
        simp only [List.mem_append, List.mem_singleton] at hs
        rcases hs with hs | rfl
        · exact ht s hs
        · exact hc
      · refine ⟨_, dn_front g.hw hh hz, by simp, ?_⟩
        intro s hs
        rcases List.mem_cons.mp hs with rfl | hs
        · exact hc
        · exact ht s hs
      · exact ⟨_, dn_chop g.hw, by simp <;> omega, lt _⟩
      · exact ⟨_, dn_beh g.hw, by simp <;> omega, ld _⟩
      · exact absurd rfl hnt
end
end K02

end
section
namespace K02
open PySem PySem.Spec PyProof.Rows L2 TW

section
variable {w : Str} {l : Nat} {t : List Nat} {X : List Ms} {d : PyData}
/-! what the edits are like -/
def okD (d : PyData) : Prop := isPa 5 d ∧ PyData.canLay0 d = true ∧ PyData.depth d ≤ 10
theorem okD_sh (h : okD d) : SeqAt.shaped d = true := by
  refine Bool.and_eq_true_iff.mpr ⟨h.2.1, decide_eq_true ?_⟩
  have := h.2.2
  omega
theorem nats_lay (ps : List Nat) : PyData.canLayAll0 (nats ps) = true ∧ PyData.depthAll (nats ps) = 0 := by
  induction ps with
  | nil => exact ⟨rfl, rfl⟩
  | cons p ps ih =>
    obtain ⟨a, b⟩ := ih
    have e : nats (p :: ps) = .int (p : Nat) :: nats ps := rfl
    rw [e]
    exact ⟨by simp [PyData.canLayAll0, PyData.canLay0, a], by simp [PyData.depthAll, PyData.depth, b]⟩
theorem isPa_nats {n : Nat} (ps : List Nat) (h : ps.length ≤ 1000) : isPa (n + 2) (.tuple (nats ps)) := by
  refine ⟨by rw [nats_len]; exact h, fun y hy => ?_⟩
  obtain ⟨i, rfl⟩ := nats_int y hy
  trivial
theorem okD_nats (t : List Nat) (h : t.length ≤ 1000) : okD (.tuple (nats t)) := by
  obtain ⟨a, b⟩ := nats_lay t
  exact ⟨isPa_nats t h, by simpa [PyData.canLay0] using a, by simp [PyData.depth, b]⟩
theorem wx_len {x : Ms} (g : WX w l X) (hx : x ∈ X) : ∀ ps, x = .perm ps → ps.length ≤ 3 := fun ps e => by
  have ok := g.ok x hx
  subst e
  simp only [msB, Bool.and_eq_true, decide_eq_true_eq] at ok
  have := g.hl
  simp only [List.mem_cons, List.not_mem_nil, or_false] at this
  omega
theorem okD_ms (g : WX w l X) {x : Ms} (hx : x ∈ X) : okD x.d := by
  have hs := (Bool.and_eq_true_iff.mp (ms_sh g x hx)).1
  cases x with
  | one k c => exact ⟨by simp [Ms.d, isPa], hs, by simp [Ms.d, PyData.depth, PyData.depthAll]⟩
  | perm ps =>
    have h3 := wx_len g hx ps rfl
    refine ⟨?_, hs, by simp [Ms.d, PyData.depth, PyData.depthAll, (nats_lay ps).2]⟩
    refine ⟨by simp, fun y hy => ?_⟩
    simp only [List.mem_cons, List.not_mem_nil, or_false] at hy
    rcases hy with rfl | rfl
    · trivial
    · exact isPa_nats ps (by omega)
  | turn => exact ⟨by simp [Ms.d, isPa], hs, by simp [Ms.d, PyData.depth, PyData.depthAll]⟩
theorem okD_ed (g : WX w l X) (hd : d ∈ edits w X t) : okD d := by
  obtain ⟨x, hx, hd⟩ := mem_edits.mp hd
  have h := okD_ms g hx
  cases hh : hid w with
  | false =>
    obtain ⟨rfl, _⟩ := (mem_edN hh).mp hd
    exact h
  | true =>
    obtain ⟨k, c, rfl, _⟩ := hid_one g hh x hx
    obtain ⟨i, rfl, _⟩ := (mem_edH hh).mp hd
    have hl : PyData.canLay0 (.str k) = true := by
      have := h.2.1
      simp only [Ms.d, PyData.canLay0, PyData.canLayAll0, Bool.and_eq_true] at this
      simpa [PyData.canLay0] using this.1
    refine ⟨by simp [ext, isPa], ?_, by simp [ext, PyData.depth, PyData.depthAll]⟩
    simp only [ext, PyData.canLay0, PyData.canLayAll0, Bool.and_true, Bool.and_eq_true, and_true]
    simpa [PyData.canLay0] using hl
theorem okD_list {xs : List PyData} (h : ∀ x ∈ xs, okD x) : PyData.canLayAll0 xs = true ∧ PyData.depthAll xs ≤ 11 := by
  induction xs with
  | nil => exact ⟨rfl, by simp [PyData.depthAll]⟩
  | cons y ys ih =>
    obtain ⟨a, b⟩ := ih fun x hx => h x (List.mem_cons_of_mem _ hx)
    obtain ⟨_, c, e⟩ := h y List.mem_cons_self
    exact ⟨by simp [PyData.canLayAll0, a, c], by simp only [PyData.depthAll]; omega⟩
theorem sh_listD {xs : List PyData} (h : ∀ x ∈ xs, okD x) : SeqAt.shaped (.list xs) = true ∧ SeqAt.shaped (.tuple xs) = true := by
  obtain ⟨a, b⟩ := okD_list h
  constructor
  · refine Bool.and_eq_true_iff.mpr ⟨by simpa [PyData.canLay0] using a, decide_eq_true ?_⟩
    simp only [PyData.depth]
    omega
  · refine Bool.and_eq_true_iff.mpr ⟨by simpa [PyData.canLay0] using a, decide_eq_true ?_⟩
    simp only [PyData.depth]
    omega
theorem fNe_emp {xs : List PyData} (h : ∀ x ∈ xs, okD x) : fNe (.list xs) (.list []) = some (.bool (!xs.isEmpty)) := by
  unfold fNe
  rw [(sh_listD h).1, show SeqAt.shaped (.list []) = true from rfl]
  cases xs <;> rfl
theorem same_ed (g : WX w l X) (hd : d ∈ edits w X t) : sameD d d = true := by
  obtain ⟨x, hx, hd⟩ := mem_edits.mp hd
  cases hh : hid w with
  | false =>
    obtain ⟨rfl, _⟩ := (mem_edN hh).mp hd
    exact same_ms x
  | true =>
    obtain ⟨k, c, rfl, _⟩ := hid_one g hh x hx
    obtain ⟨i, rfl, _⟩ := (mem_edH hh).mp hd
    exact same_ext _ _ _
theorem same_mem (g : WX w l X) : (edits w X t).filter (sameD d) ≠ [] ↔ d ∈ edits w X t := by
  constructor
  · intro h
    obtain ⟨y, hy⟩ := List.exists_mem_of_ne_nil _ h
    obtain ⟨h1, h2⟩ := List.mem_filter.mp hy
    rw [sameD_eq _ _ h2]
    exact h1
  · intro h
    exact List.ne_nil_of_mem (List.mem_filter.mpr ⟨h, same_ed g h⟩)
/-! how a text goes on -/
def DoneP (w : Str) (t : List Nat) (d : PyData) (t' : List Nat) : Prop := (∃ out, D_done [.v (.str w), .v (.tuple (nats t)), .v d] = .ok (.tuple (nats t')) out) ∧ (∃ out, D__law_done [.v (.str w), .v (.tuple (nats t)), .v d] = .ok (.tuple (nats t')) out)
inductive Run (w : Str) (l : Nat) (X : List Ms) : List PyData → Nat → List Nat → List Nat → Option Nat → Prop
  | nil {n : Nat} {t : List Nat} : Run w l X [] n t t none
  | bad {d : PyData} {ds : List PyData} {n : Nat} {t : List Nat} : d ∉ edits w X t → Run w l X (d :: ds) n t t (some n)
  | good {d : PyData} {ds : List PyData} {n : Nat} {t t' t2 : List Nat} {o : Option Nat} : d ∈ edits w X t → DoneP w t d t' → t'.length ≤ t.length + 1 → (∀ s ∈ t', s < l) → Run w l X ds (n + 1) t' t2 o → Run w l X (d :: ds) n t t2 o
theorem run_ex (g : WX w l X) : ∀ (ds : List PyData) (n : Nat) (t : List Nat), t.length + ds.length ≤ 500 → (∀ s ∈ t, s < l) → ∃ t2 o, Run w l X ds n t t2 o
  | [], n, t, _, _ => ⟨t, none, .nil⟩
  | d :: ds, n, t, hz, ht => by
    rw [List.length_cons] at hz
    by_cases h : d ∈ edits w X t
    · obtain ⟨t', hd, h1, h2⟩ := done_law g (by omega) ht h
      obtain ⟨t2, o, r⟩ := run_ex g ds (n + 1) t' (by omega) h2
      exact ⟨t2, o, .good h hd h1 h2 r⟩
    · exact ⟨t, some n, .bad h⟩
theorem run_len {ds : List PyData} {n : Nat} {t t2 : List Nat} {o : Option Nat} (h : Run w l X ds n t t2 o) : t2.length ≤ t.length + ds.length := by
  induction h with
  | nil => simp
  | bad _ => simp
  | good _ _ h _ _ ih => rw [List.length_cons]; omega
theorem run_let {ds : List PyData} {n : Nat} {t t2 : List Nat} {o : Option Nat} (h : Run w l X ds n t t2 o) : (∀ s ∈ t, s < l) → ∀ s ∈ t2, s < l := by
  induction h with
  | nil => exact id
  | bad _ => exact id
  | good _ _ _ h _ ih => exact fun _ => ih h
theorem run_snoc {ds : List PyData} {n : Nat} {t t1 t2 : List Nat} {o : Option Nat} (h : Run w l X ds n t t1 o) : o = none → d ∈ edits w X t1 → DoneP w t1 d t2 → t2.length ≤ t1.length + 1 → (∀ s ∈ t2, s < l) → Run w l X (ds ++ [d]) n t t2 none := by
  induction h with
  | nil => exact fun _ h1 h2 h3 h4 => .good h1 h2 h3 h4 .nil
  | bad _ => exact fun h => by cases h
  | good a b c e _ ih => exact fun h h1 h2 h3 h4 => .good a b c e (ih h h1 h2 h3 h4)
/-! the program's walk -/
def fwT : Tg := gT (gLen 2 (gsC (gN 4) (gsC (gN 5) gsN)))
def fwI : M Bool := dtNot ((dCall (D_is_edit) (aV (dVar 0) (aV (dVar 1) (aV (dVar 3) (aV (dVar 5) aNil))))).bind asB)
def fwR : M Fl := sRet (dTup (aV (dVar 3) (aV (dVar 4) aNil)))
def fwX : M Fl := sSetX 3 (xV (dCall (D_done) (aV (dVar 0) (aV (dVar 3) (aV (dVar 5) aNil)))))
def fwB : M Fl := sSeq (sIf fwI fwR sNil) fwX
def fwFor : M Fl := sFor (aBind (aV (dVar 2) aNil) iEnum) fwT fwB
theorem fw_eq : D_first_wrong_edit = fnOf 3 6 (sSeq (sSetX 3 (xV (dTup aNil))) (sSeq fwFor (sRet (dTup (aV (dVar 3) (aV (dC .none) aNil)))))) := rfl
def enD (p : PyData × Nat) : PyData := .tuple [.int (p.2 : Nat), p.1]
variable {all : List PyData} {n : Nat} {y4 y5 : Sl}
theorem fwI_ok (g : WX w l X) (ht : t.length < 60) (hs : SeqAt.shaped d = true) : ∃ b, fwI [.v (.str w), .v (.int (l : Nat)), .v (.tuple all), .v (.tuple (nats t)), .v (.int (n : Nat)), .v d] = .ok b [.v (.str w), .v (.int (l : Nat)), .v (.tuple all), .v (.tuple (nats t)), .v (.int (n : Nat)), .v d] ∧ (b = false ↔ d ∈ edits w X t) := by
  obtain ⟨b, out, e, h⟩ := is_edit g ht hs
  refine ⟨!b, ?_, by rw [← h]; cases b <;> simp⟩
  unfold fwI
  generalize D_is_edit = F at e ⊢
  simp [fnOf, sSeq, sSetX, xV, xL, dCall, aV, aIo, aNil, dVar, M.bind, Res.bind, M.ret, M.opt, reso, nodupB, ioIx, argsSl, backSl, tSetX, lLst, aBind, allV, dC, sizeLine_eq, sFor, iSeq, items, sRet, sIf, dtOr, dtNot, dtAnd, asB, dIsi, dIsi2, isB, tyN, dBin, two, oV, oN, dFx, xFn, aO, resA, fLen, fNe_int, fEq_int, fNe_bool, fEq_bool, fEq_none, fEq_nil, fLe, fGt, fGe, fCmp, dFz, fTuple, sNil, sDrop, dChain, dAnd, dNot, Sl.own, Sl.put, dGen, genB, lLc, lcB, iEnZip, TW.iEnum, gT, gLen, gsC, gsN, sAsg, tAsgG, gN_eq, tSet_eq, tSetL_eq, noIo_eq, wipeR, nio_un, nio_v, nio_l, fInt, fSub, fAdd, xBin, fIx, xSl, pAt, pNo, fSl, dIf, fIs, isNone, unwipe_eq, nio_wp, sh_int, sh_bool, sh_none, eqv_int, eqv_bool, eqv_none, e]
theorem fwR_ok : fwR [.v (.str w), .v (.int (l : Nat)), .v (.tuple all), .v (.tuple (nats t)), .v (.int (n : Nat)), .v d] = .ok (.rt (.tuple [.tuple (nats t), .int (n : Nat)])) [.v (.str w), .v (.int (l : Nat)), .v (.tuple all), .v (.tuple (nats t)), .v (.int (n : Nat)), .v d] := by
  simp [fwR, dTup, fnOf, sSeq, sSetX, xV, xL, dCall, aV, aIo, aNil, dVar, M.bind, Res.bind, M.ret, M.opt, reso, nodupB, ioIx, argsSl, backSl, tSetX, lLst, aBind, allV, dC, sizeLine_eq, sFor, iSeq, items, sRet, sIf, dtOr, dtNot, dtAnd, asB, dIsi, dIsi2, isB, tyN, dBin, two, oV, oN, dFx, xFn, aO, resA, fLen, fNe_int, fEq_int, fNe_bool, fEq_bool, fEq_none, fEq_nil, fLe, fGt, fGe, fCmp, dFz, fTuple, sNil, sDrop, dChain, dAnd, dNot, Sl.own, Sl.put, dGen, genB, lLc, lcB, iEnZip, TW.iEnum, gT, gLen, gsC, gsN, sAsg, tAsgG, gN_eq, tSet_eq, tSetL_eq, noIo_eq, wipeR, nio_un, nio_v, nio_l, fInt, fSub, fAdd, xBin, fIx, xSl, pAt, pNo, fSl, dIf, fIs, isNone, unwipe_eq, nio_wp, sh_int, sh_bool, sh_none, eqv_int, eqv_bool, eqv_none]
theorem fwX_ok {t' : List Nat} (h : DoneP w t d t') : fwX [.v (.str w), .v (.int (l : Nat)), .v (.tuple all), .v (.tuple (nats t)), .v (.int (n : Nat)), .v d] = .ok .nx [.v (.str w), .v (.int (l : Nat)), .v (.tuple all), (.v (.tuple (nats t'))), .v (.int (n : Nat)), .v d] := by
  obtain ⟨⟨out, e⟩, _⟩ := h
  unfold fwX
  generalize D_done = F at e ⊢
  simp [fnOf, sSeq, sSetX, xV, xL, dCall, aV, aIo, aNil, dVar, M.bind, Res.bind, M.ret, M.opt, reso, nodupB, ioIx, argsSl, backSl, tSetX, lLst, aBind, allV, dC, sizeLine_eq, sFor, iSeq, items, sRet, sIf, dtOr, dtNot, dtAnd, asB, dIsi, dIsi2, isB, tyN, dBin, two, oV, oN, dFx, xFn, aO, resA, fLen, fNe_int, fEq_int, fNe_bool, fEq_bool, fEq_none, fEq_nil, fLe, fGt, fGe, fCmp, dFz, fTuple, sNil, sDrop, dChain, dAnd, dNot, Sl.own, Sl.put, dGen, genB, lLc, lcB, iEnZip, TW.iEnum, gT, gLen, gsC, gsN, sAsg, tAsgG, gN_eq, tSet_eq, tSetL_eq, noIo_eq, wipeR, nio_un, nio_v, nio_l, fInt, fSub, fAdd, xBin, fIx, xSl, pAt, pNo, fSl, dIf, fIs, isNone, unwipe_eq, nio_wp, sh_int, sh_bool, sh_none, eqv_int, eqv_bool, eqv_none, e]
theorem fwT_ok (h4 : nio y4 = true) (h5 : nio y5 = true) : fwT (enD (d, n)) [.v (.str w), .v (.int (l : Nat)), .v (.tuple all), .v (.tuple (nats t)), y4, y5] = some [.v (.str w), .v (.int (l : Nat)), .v (.tuple all), .v (.tuple (nats t)), .v (.int (n : Nat)), .v d] := by
  simp [fwT, enD, gT, gLen, gsC, gsN, gN_eq, h4, h5]
theorem fw_loop (g : WX w l X) {ds : List PyData} {t2 : List Nat} {o : Option Nat} (h : Run w l X ds n t t2 o) : t.length + ds.length ≤ 59 → (∀ d ∈ ds, SeqAt.shaped d = true) → ∀ y4 y5, nio y4 = true → nio y5 = true →
    (o = none → ∃ z4 z5, forF fwT fwB ((ds.zipIdx n).map enD) [.v (.str w), .v (.int (l : Nat)), .v (.tuple all), .v (.tuple (nats t)), y4, y5] = .ok .nx [.v (.str w), .v (.int (l : Nat)), .v (.tuple all), .v (.tuple (nats t2)), z4, z5]) ∧
    (∀ m, o = some m → ∃ r, forF fwT fwB ((ds.zipIdx n).map enD) [.v (.str w), .v (.int (l : Nat)), .v (.tuple all), .v (.tuple (nats t)), y4, y5] = .ok (.rt (.tuple [.tuple (nats t2), .int (m : Nat)])) r) := by
  induction h with
  | nil => exact fun _ _ y4 y5 _ _ => ⟨fun _ => ⟨y4, y5, rfl⟩, fun m h => by cases h⟩
  | @bad d ds n t hn =>
    intro hz hs y4 y5 h4 h5
    refine ⟨fun h => (by cases h), fun m h => ?_⟩
    cases h
    obtain ⟨b, e, hb⟩ := fwI_ok (all := all) (n := n) g (t := t) (d := d) (by rw [List.length_cons] at hz; omega) (hs d List.mem_cons_self)
    have hb1 : b = true := by
      cases b with
      | true => rfl
      | false => exact absurd (hb.mp rfl) hn
    subst hb1
    have e2 : fwB [.v (.str w), .v (.int (l : Nat)), .v (.tuple all), .v (.tuple (nats t)), .v (.int (n : Nat)), .v d] = .ok (.rt (.tuple [.tuple (nats t), .int (n : Nat)])) [.v (.str w), .v (.int (l : Nat)), .v (.tuple all), .v (.tuple (nats t)), .v (.int (n : Nat)), .v d] := sSeq_rt ((sIf_t e).trans fwR_ok)
    exact ⟨[.v (.str w), .v (.int (l : Nat)), .v (.tuple all), .v (.tuple (nats t)), .v (.int (n : Nat)), .v d], by simp only [List.zipIdx_cons, List.map_cons, forF, fwT_ok h4 h5, e2]⟩
  | @good d ds n t t' t2 o hm hd hl hlt hr ih =>
    intro hz hs y4 y5 h4 h5
    rw [List.length_cons] at hz
    obtain ⟨b, e, hb⟩ := fwI_ok (all := all) (n := n) g (t := t) (d := d) (by omega) (hs d List.mem_cons_self)
    have hb1 : b = false := hb.mpr hm
    subst hb1
    have e2 : fwB [.v (.str w), .v (.int (l : Nat)), .v (.tuple all), .v (.tuple (nats t)), .v (.int (n : Nat)), .v d] = .ok .nx [.v (.str w), .v (.int (l : Nat)), .v (.tuple all), (.v (.tuple (nats t'))), .v (.int (n : Nat)), .v d] := (sSeq_nx (sIf_no e)).trans (fwX_ok hd)
    have q := ih (by omega) (fun x hx => hs x (List.mem_cons_of_mem _ hx)) (.v (.int (n : Nat))) (.v d) rfl rfl
    have e3 : forF fwT fwB (((d :: ds).zipIdx n).map enD) [.v (.str w), .v (.int (l : Nat)), .v (.tuple all), .v (.tuple (nats t)), y4, y5] = forF fwT fwB ((ds.zipIdx (n + 1)).map enD) [.v (.str w), .v (.int (l : Nat)), .v (.tuple all), (.v (.tuple (nats t'))), .v (.int (n : Nat)), .v d] := by
      simp only [List.zipIdx_cons, List.map_cons, forF, fwT_ok h4 h5, e2]
    rw [e3]
    exact q
theorem fw_ok (g : WX w l X) {t2 : List Nat} {o : Option Nat} (h : Run w l X all 0 [] t2 o) (hz : all.length ≤ 59) (hs : ∀ d ∈ all, SeqAt.shaped d = true) : ∃ out, D_first_wrong_edit [.v (.str w), .v (.int (l : Nat)), .v (.tuple all)] = .ok (.tuple [.tuple (nats t2), match o with | none => .none | some m => .int (m : Nat)]) out := by
  rw [fw_eq]
  obtain ⟨q1, q2⟩ := fw_loop (all := all) g h (by simpa using hz) hs .un .un rfl rfl
  have e1 : (sSetX 3 (xV (dTup aNil))) [.v (.str w), .v (.int (l : Nat)), .v (.tuple all), .un, .un, .un] = .ok .nx [.v (.str w), .v (.int (l : Nat)), .v (.tuple all), .v (.tuple (nats [])), .un, .un] := by simp [dTup, fnOf, sSeq, sSetX, xV, xL, dCall, aV, aIo, aNil, dVar, M.bind, Res.bind, M.ret, M.opt, reso, nodupB, ioIx, argsSl, backSl, tSetX, lLst, aBind, allV, dC, sizeLine_eq, sFor, iSeq, items, sRet, sIf, dtOr, dtNot, dtAnd, asB, dIsi, dIsi2, isB, tyN, dBin, two, oV, oN, dFx, xFn, aO, resA, fLen, fNe_int, fEq_int, fNe_bool, fEq_bool, fEq_none, fEq_nil, fLe, fGt, fGe, fCmp, dFz, fTuple, sNil, sDrop, dChain, dAnd, dNot, Sl.own, Sl.put, dGen, genB, lLc, lcB, iEnZip, TW.iEnum, gT, gLen, gsC, gsN, sAsg, tAsgG, gN_eq, tSet_eq, tSetL_eq, noIo_eq, wipeR, nio_un, nio_v, nio_l, fInt, fSub, fAdd, xBin, fIx, xSl, pAt, pNo, fSl, dIf, fIs, isNone, unwipe_eq, nio_wp, sh_int, sh_bool, sh_none, eqv_int, eqv_bool, eqv_none, nats]
  have ei : (aBind (aV (dVar 2) aNil) iEnum) [.v (.str w), .v (.int (l : Nat)), .v (.tuple all), .v (.tuple (nats [])), .un, .un] = .ok ((all.zipIdx 0).map enD) [.v (.str w), .v (.int (l : Nat)), .v (.tuple all), .v (.tuple (nats [])), .un, .un] := rfl
  have ef : fwFor [.v (.str w), .v (.int (l : Nat)), .v (.tuple all), .v (.tuple (nats [])), .un, .un] = forF fwT fwB ((all.zipIdx 0).map enD) [.v (.str w), .v (.int (l : Nat)), .v (.tuple all), .v (.tuple (nats [])), .un, .un] := sFor_ok ei
  generalize fwFor = F at ef ⊢
  cases o with
  | none =>
    obtain ⟨z4, z5, q⟩ := q1 rfl
    have er : (sRet (dTup (aV (dVar 3) (aV (dC .none) aNil)))) [.v (.str w), .v (.int (l : Nat)), .v (.tuple all), .v (.tuple (nats t2)), z4, z5] = .ok (.rt (.tuple [.tuple (nats t2), .none])) [.v (.str w), .v (.int (l : Nat)), .v (.tuple all), .v (.tuple (nats t2)), z4, z5] := by simp [dTup, fnOf, sSeq, sSetX, xV, xL, dCall, aV, aIo, aNil, dVar, M.bind, Res.bind, M.ret, M.opt, reso, nodupB, ioIx, argsSl, backSl, tSetX, lLst, aBind, allV, dC, sizeLine_eq, sFor, iSeq, items, sRet, sIf, dtOr, dtNot, dtAnd, asB, dIsi, dIsi2, isB, tyN, dBin, two, oV, oN, dFx, xFn, aO, resA, fLen, fNe_int, fEq_int, fNe_bool, fEq_bool, fEq_none, fEq_nil, fLe, fGt, fGe, fCmp, dFz, fTuple, sNil, sDrop, dChain, dAnd, dNot, Sl.own, Sl.put, dGen, genB, lLc, lcB, iEnZip, TW.iEnum, gT, gLen, gsC, gsN, sAsg, tAsgG, gN_eq, tSet_eq, tSetL_eq, noIo_eq, wipeR, nio_un, nio_v, nio_l, fInt, fSub, fAdd, xBin, fIx, xSl, pAt, pNo, fSl, dIf, fIs, isNone, unwipe_eq, nio_wp, sh_int, sh_bool, sh_none, eqv_int, eqv_bool, eqv_none]
    exact ⟨_, fnOf_rt rfl ((sSeq_nx e1).trans ((sSeq_nx (ef.trans q)).trans er))⟩
  | some m =>
    obtain ⟨r, q⟩ := q2 m rfl
    exact ⟨_, fnOf_rt rfl ((sSeq_nx e1).trans (sSeq_rt (ef.trans q)))⟩
end
end K02

end
section
namespace K02
open PySem PySem.Spec PyProof.Rows L2 TW

section
variable {w : Str} {l : Nat} {t : List Nat} {X : List Ms} {d : PyData} {all : List PyData} {y3 y4 : Sl}
def nI : M Fl := sIf (dtOr (dtNot ((dIsi "tuple" (oN 2)).bind asB)) ((dBin fGt (oV (dFx (xFn fLen (aO (oN 2) aNil)))) (oV (dC con_MOST_EDITS))).bind asB)) (sRaise1 "BadEdits" "index" (dC .none)) sNil
def nA : M Fl := sAsg (dCall (D_first_wrong_edit) (aV (dVar 0) (aV (dVar 1) (aV (dVar 2) aNil)))) (gT (gLen 2 (gsC (gN 3) (gsC (gN 4) gsN))))
def nR : M Fl := sIf ((dBin fIsNot (oN 4) (oV (dC .none))).bind asB) (sRaise1 "BadEdits" "index" (dVar 4)) sNil
theorem need_edits_eq : D_need_edits = fnOf 3 5 (sSeq nI (sSeq nA (sSeq nR (sRet (dVar 3))))) := rfl
theorem nI_ok (hz : all.length ≤ 59) : nI [.v (.str w), .v (.int (l : Nat)), .v (.tuple all), y3, y4] = .ok .nx [.v (.str w), .v (.int (l : Nat)), .v (.tuple all), y3, y4] := by
  have h : ¬ (100 : Int) < all.length := by omega
  simp [nI, con_MOST_EDITS, fnOf, sSeq, sSetX, xV, xL, dCall, aV, aIo, aNil, dVar, M.bind, Res.bind, M.ret, M.opt, reso, nodupB, ioIx, argsSl, backSl, tSetX, lLst, aBind, allV, dC, sizeLine_eq, sFor, iSeq, items, sRet, sIf, dtOr, dtNot, dtAnd, asB, dIsi, dIsi2, isB, tyN, dBin, two, oV, oN, dFx, xFn, aO, resA, fLen, fNe_int, fEq_int, fNe_bool, fEq_bool, fEq_none, fEq_nil, fLe, fGt, fGe, fCmp, dFz, fTuple, sNil, sDrop, dChain, dAnd, dNot, Sl.own, Sl.put, dGen, genB, lLc, lcB, iEnZip, TW.iEnum, gT, gLen, gsC, gsN, sAsg, tAsgG, gN_eq, tSet_eq, tSetL_eq, noIo_eq, wipeR, nio_un, nio_v, nio_l, fInt, fSub, fAdd, xBin, fIx, xSl, pAt, pNo, fSl, dIf, fIs, isNone, unwipe_eq, nio_wp, sh_int, sh_bool, sh_none, eqv_int, eqv_bool, eqv_none, h]
theorem nA_ok {x y : PyData} {out : List Sl} (e : D_first_wrong_edit [.v (.str w), .v (.int (l : Nat)), .v (.tuple all)] = .ok (.tuple [x, y]) out) (h3 : nio y3 = true) (h4 : nio y4 = true) : nA [.v (.str w), .v (.int (l : Nat)), .v (.tuple all), y3, y4] = .ok .nx [.v (.str w), .v (.int (l : Nat)), .v (.tuple all), .v x, .v y] := by
  unfold nA
  generalize D_first_wrong_edit = F at e ⊢
  simp [fnOf, sSeq, sSetX, xV, xL, dCall, aV, aIo, aNil, dVar, M.bind, Res.bind, M.ret, M.opt, reso, nodupB, ioIx, argsSl, backSl, tSetX, lLst, aBind, allV, dC, sizeLine_eq, sFor, iSeq, items, sRet, sIf, dtOr, dtNot, dtAnd, asB, dIsi, dIsi2, isB, tyN, dBin, two, oV, oN, dFx, xFn, aO, resA, fLen, fNe_int, fEq_int, fNe_bool, fEq_bool, fEq_none, fEq_nil, fLe, fGt, fGe, fCmp, dFz, fTuple, sNil, sDrop, dChain, dAnd, dNot, Sl.own, Sl.put, dGen, genB, lLc, lcB, iEnZip, TW.iEnum, gT, gLen, gsC, gsN, sAsg, tAsgG, gN_eq, tSet_eq, tSetL_eq, noIo_eq, wipeR, nio_un, nio_v, nio_l, fInt, fSub, fAdd, xBin, fIx, xSl, pAt, pNo, fSl, dIf, fIs, isNone, unwipe_eq, nio_wp, sh_int, sh_bool, sh_none, eqv_int, eqv_bool, eqv_none, e, h3, h4]
theorem nR_no : nR [.v (.str w), .v (.int (l : Nat)), .v (.tuple all), y3, .v .none] = .ok .nx [.v (.str w), .v (.int (l : Nat)), .v (.tuple all), y3, .v .none] := by
  simp [nR, fIsNot, fnOf, sSeq, sSetX, xV, xL, dCall, aV, aIo, aNil, dVar, M.bind, Res.bind, M.ret, M.opt, reso, nodupB, ioIx, argsSl, backSl, tSetX, lLst, aBind, allV, dC, sizeLine_eq, sFor, iSeq, items, sRet, sIf, dtOr, dtNot, dtAnd, asB, dIsi, dIsi2, isB, tyN, dBin, two, oV, oN, dFx, xFn, aO, resA, fLen, fNe_int, fEq_int, fNe_bool, fEq_bool, fEq_none, fEq_nil, fLe, fGt, fGe, fCmp, dFz, fTuple, sNil, sDrop, dChain, dAnd, dNot, Sl.own, Sl.put, dGen, genB, lLc, lcB, iEnZip, TW.iEnum, gT, gLen, gsC, gsN, sAsg, tAsgG, gN_eq, tSet_eq, tSetL_eq, noIo_eq, wipeR, nio_un, nio_v, nio_l, fInt, fSub, fAdd, xBin, fIx, xSl, pAt, pNo, fSl, dIf, fIs, isNone, unwipe_eq, nio_wp, sh_int, sh_bool, sh_none, eqv_int, eqv_bool, eqv_none]
theorem nR_ex {m : Nat} : nR [.v (.str w), .v (.int (l : Nat)), .v (.tuple all), y3, .v (.int (m : Nat))] = .ex ⟨"BadEdits", [("index", .int (m : Nat))]⟩ [.v (.str w), .v (.int (l : Nat)), .v (.tuple all), y3, .v (.int (m : Nat))] := by
  simp [nR, fIsNot, sRaise1, fnOf, sSeq, sSetX, xV, xL, dCall, aV, aIo, aNil, dVar, M.bind, Res.bind, M.ret, M.opt, reso, nodupB, ioIx, argsSl, backSl, tSetX, lLst, aBind, allV, dC, sizeLine_eq, sFor, iSeq, items, sRet, sIf, dtOr, dtNot, dtAnd, asB, dIsi, dIsi2, isB, tyN, dBin, two, oV, oN, dFx, xFn, aO, resA, fLen, fNe_int, fEq_int, fNe_bool, fEq_bool, fEq_none, fEq_nil, fLe, fGt, fGe, fCmp, dFz, fTuple, sNil, sDrop, dChain, dAnd, dNot, Sl.own, Sl.put, dGen, genB, lLc, lcB, iEnZip, TW.iEnum, gT, gLen, gsC, gsN, sAsg, tAsgG, gN_eq, tSet_eq, tSetL_eq, noIo_eq, wipeR, nio_un, nio_v, nio_l, fInt, fSub, fAdd, xBin, fIx, xSl, pAt, pNo, fSl, dIf, fIs, isNone, unwipe_eq, nio_wp, sh_int, sh_bool, sh_none, eqv_int, eqv_bool, eqv_none]
theorem sSeq_ex {a b : M Fl} {r r' : List Sl} {e : Ex} (h : a r = .ex e r') : sSeq a b r = .ex e r' := by simp only [sSeq, h]
theorem fnOf_ex {n N : Nat} {b : M Fl} {sl r : List Sl} {e : Ex} (hl : sl.length = n) (h : b (sl ++ List.replicate (N - n) .un) = .ex e r) : fnOf n N b sl = .ex e r := by
  simp only [fnOf, hl, if_true, h]
/-- what the program answers at a run -/
def ansP (t2 : List Nat) (o : Option Nat) (r : Res PyData) : Prop := ∃ out, r = match o with
  | none => .ok (.tuple (nats t2)) out
  | some m => .ex ⟨"BadEdits", [("index", .int (m : Nat))]⟩ out
theorem need_ed (g : WX w l X) {t2 : List Nat} {o : Option Nat} (h : Run w l X all 0 [] t2 o) (hz : all.length ≤ 59) (hs : ∀ d ∈ all, SeqAt.shaped d = true) : ansP t2 o (D_need_edits [.v (.str w), .v (.int (l : Nat)), .v (.tuple all)]) := by
  obtain ⟨out, e⟩ := fw_ok g h hz hs
  rw [need_edits_eq]
  have e1 := nI_ok (w := w) (l := l) (y3 := .un) (y4 := .un) hz
  have e2 := nA_ok (y3 := .un) (y4 := .un) e rfl rfl
  cases o with
  | none => exact ⟨_, fnOf_rt rfl ((sSeq_nx e1).trans ((sSeq_nx e2).trans ((sSeq_nx nR_no).trans (sRet_ok rfl))))⟩
  | some m => exact ⟨_, fnOf_ex rfl ((sSeq_nx e1).trans ((sSeq_nx e2).trans (sSeq_ex nR_ex)))⟩
def wS : M Fl := sDrop (dCall (D_need_world) (aV (dVar 0) aNil))
def lS : M Fl := sDrop (dCall (D_need_letters) (aV (dVar 1) aNil))
def nC : M PyData := dCall (D_need_edits) (aV (dVar 0) (aV (dVar 1) (aV (dVar 2) aNil)))
theorem text_after_eq : D_text_after = fnOf 3 3 (sSeq wS (sSeq lS (sRet nC))) := rfl
theorem wS_ok (g : WX w l X) (r : List Sl) : wS (.v (.str w) :: .v (.int (l : Nat)) :: r) = .ok .nx (.v (.str w) :: .v (.int (l : Nat)) :: r) := by
  obtain ⟨out, e⟩ := need_world g.hw
  unfold wS
  generalize D_need_world = F at e ⊢
  simp [fnOf, sSeq, sSetX, xV, xL, dCall, aV, aIo, aNil, dVar, M.bind, Res.bind, M.ret, M.opt, reso, nodupB, ioIx, argsSl, backSl, tSetX, lLst, aBind, allV, dC, sizeLine_eq, sFor, iSeq, items, sRet, sIf, dtOr, dtNot, dtAnd, asB, dIsi, dIsi2, isB, tyN, dBin, two, oV, oN, dFx, xFn, aO, resA, fLen, fNe_int, fEq_int, fNe_bool, fEq_bool, fEq_none, fEq_nil, fLe, fGt, fGe, fCmp, dFz, fTuple, sNil, sDrop, dChain, dAnd, dNot, Sl.own, Sl.put, dGen, genB, lLc, lcB, iEnZip, TW.iEnum, gT, gLen, gsC, gsN, sAsg, tAsgG, gN_eq, tSet_eq, tSetL_eq, noIo_eq, wipeR, nio_un, nio_v, nio_l, fInt, fSub, fAdd, xBin, fIx, xSl, pAt, pNo, fSl, dIf, fIs, isNone, unwipe_eq, nio_wp, sh_int, sh_bool, sh_none, eqv_int, eqv_bool, eqv_none, e]
theorem lS_ok (g : WX w l X) (r : List Sl) : lS (.v (.str w) :: .v (.int (l : Nat)) :: r) = .ok .nx (.v (.str w) :: .v (.int (l : Nat)) :: r) := by
  obtain ⟨out, e⟩ := need_letters (lI g.hl)
  unfold lS
  generalize D_need_letters = F at e ⊢
  simp [fnOf, sSeq, sSetX, xV, xL, dCall, aV, aIo, aNil, dVar, M.bind, Res.bind, M.ret, M.opt, reso, nodupB, ioIx, argsSl, backSl, tSetX, lLst, aBind, allV, dC, sizeLine_eq, sFor, iSeq, items, sRet, sIf, dtOr, dtNot, dtAnd, asB, dIsi, dIsi2, isB, tyN, dBin, two, oV, oN, dFx, xFn, aO, resA, fLen, fNe_int, fEq_int, fNe_bool, fEq_bool, fEq_none, fEq_nil, fLe, fGt, fGe, fCmp, dFz, fTuple, sNil, sDrop, dChain, dAnd, dNot, Sl.own, Sl.put, dGen, genB, lLc, lcB, iEnZip, TW.iEnum, gT, gLen, gsC, gsN, sAsg, tAsgG, gN_eq, tSet_eq, tSetL_eq, noIo_eq, wipeR, nio_un, nio_v, nio_l, fInt, fSub, fAdd, xBin, fIx, xSl, pAt, pNo, fSl, dIf, fIs, isNone, unwipe_eq, nio_wp, sh_int, sh_bool, sh_none, eqv_int, eqv_bool, eqv_none, e]
theorem nC_ok {x : PyData} {out : List Sl} (e : D_need_edits [.v (.str w), .v (.int (l : Nat)), .v (.tuple all)] = .ok x out) (r : List Sl) : nC (.v (.str w) :: .v (.int (l : Nat)) :: .v (.tuple all) :: r) = .ok x (.v (.str w) :: .v (.int (l : Nat)) :: .v (.tuple all) :: r) := by
  unfold nC
  generalize D_need_edits = F at e ⊢
  simp [fnOf, sSeq, sSetX, xV, xL, dCall, aV, aIo, aNil, dVar, M.bind, Res.bind, M.ret, M.opt, reso, nodupB, ioIx, argsSl, backSl, tSetX, lLst, aBind, allV, dC, sizeLine_eq, sFor, iSeq, items, sRet, sIf, dtOr, dtNot, dtAnd, asB, dIsi, dIsi2, isB, tyN, dBin, two, oV, oN, dFx, xFn, aO, resA, fLen, fNe_int, fEq_int, fNe_bool, fEq_bool, fEq_none, fEq_nil, fLe, fGt, fGe, fCmp, dFz, fTuple, sNil, sDrop, dChain, dAnd, dNot, Sl.own, Sl.put, dGen, genB, lLc, lcB, iEnZip, TW.iEnum, gT, gLen, gsC, gsN, sAsg, tAsgG, gN_eq, tSet_eq, tSetL_eq, noIo_eq, wipeR, nio_un, nio_v, nio_l, fInt, fSub, fAdd, xBin, fIx, xSl, pAt, pNo, fSl, dIf, fIs, isNone, unwipe_eq, nio_wp, sh_int, sh_bool, sh_none, eqv_int, eqv_bool, eqv_none, e]
theorem nC_ex {x : Ex} {out : List Sl} (e : D_need_edits [.v (.str w), .v (.int (l : Nat)), .v (.tuple all)] = .ex x out) (r : List Sl) : nC (.v (.str w) :: .v (.int (l : Nat)) :: .v (.tuple all) :: r) = .ex x (.v (.str w) :: .v (.int (l : Nat)) :: .v (.tuple all) :: r) := by
  unfold nC
  generalize D_need_edits = F at e ⊢
  simp [fnOf, sSeq, sSetX, xV, xL, dCall, aV, aIo, aNil, dVar, M.bind, Res.bind, M.ret, M.opt, reso, nodupB, ioIx, argsSl, backSl, tSetX, lLst, aBind, allV, dC, sizeLine_eq, sFor, iSeq, items, sRet, sIf, dtOr, dtNot, dtAnd, asB, dIsi, dIsi2, isB, tyN, dBin, two, oV, oN, dFx, xFn, aO, resA, fLen, fNe_int, fEq_int, fNe_bool, fEq_bool, fEq_none, fEq_nil, fLe, fGt, fGe, fCmp, dFz, fTuple, sNil, sDrop, dChain, dAnd, dNot, Sl.own, Sl.put, dGen, genB, lLc, lcB, iEnZip, TW.iEnum, gT, gLen, gsC, gsN, sAsg, tAsgG, gN_eq, tSet_eq, tSetL_eq, noIo_eq, wipeR, nio_un, nio_v, nio_l, fInt, fSub, fAdd, xBin, fIx, xSl, pAt, pNo, fSl, dIf, fIs, isNone, unwipe_eq, nio_wp, sh_int, sh_bool, sh_none, eqv_int, eqv_bool, eqv_none, e]
theorem text_after (g : WX w l X) {t2 : List Nat} {o : Option Nat} (h : Run w l X all 0 [] t2 o) (hz : all.length ≤ 59) (hs : ∀ d ∈ all, SeqAt.shaped d = true) : ansP t2 o (D_text_after [.v (.str w), .v (.int (l : Nat)), .v (.tuple all)]) := by
  obtain ⟨out, e⟩ := need_ed g h hz hs
  rw [text_after_eq]
  have e1 := wS_ok g [.v (.tuple all)]
  have e2 := lS_ok g [.v (.tuple all)]
  cases o with
  | none => exact ⟨_, fnOf_rt rfl ((sSeq_nx e1).trans ((sSeq_nx e2).trans (sRet_ok (nC_ok e []))))⟩
  | some m =>
    have e3 : sRet nC [.v (.str w), .v (.int (l : Nat)), .v (.tuple all)] = .ex ⟨"BadEdits", [("index", .int (m : Nat))]⟩ [.v (.str w), .v (.int (l : Nat)), .v (.tuple all)] := by simp only [sRet, M.bind, Res.bind, nC_ex e []]
    exact ⟨_, fnOf_ex rfl ((sSeq_nx e1).trans ((sSeq_nx e2).trans e3))⟩
/-! what is told -/
def sdD (w : Str) : PyData → PyData
  | .tuple xs => if hid w then .tuple (xs.take 2) else .tuple xs
  | d => d
theorem cut2 (os : List PyData) : TW.cutD os none (some 2) = os.take 2 := by
  unfold TW.cutD
  have e : HT.sIx os.length os.length (some 2) = min 2 os.length := HT.sIx_nat os.length os.length 2
  rw [e, HT.sIx_none, List.drop_zero, Nat.sub_zero]
  by_cases hl : 2 ≤ os.length
  · rw [Nat.min_eq_left hl]
  · rw [Nat.min_eq_right (by omega), List.take_of_length_le (Nat.le_refl _), List.take_of_length_le (by omega)]
theorem message_of (hw : w ∈ wnames) (xs : List PyData) : ∃ out, D_message_of [.v (.str w), .v (.tuple xs)] = .ok (sdD w (.tuple xs)) out := by
  have e := hidC hw
  have c := cut2 xs
  cases hh : hid w with
  | true =>
    rw [hh] at e
    simp [D_message_of, sdD, xIf, fnOf, sSeq, sSetX, xV, xL, dCall, aV, aIo, aNil, dVar, M.bind, Res.bind, M.ret, M.opt, reso, nodupB, ioIx, argsSl, backSl, tSetX, lLst, aBind, allV, dC, sizeLine_eq, sFor, iSeq, items, sRet, sIf, dtOr, dtNot, dtAnd, asB, dIsi, dIsi2, isB, tyN, dBin, two, oV, oN, dFx, xFn, aO, resA, fLen, fNe_int, fEq_int, fNe_bool, fEq_bool, fEq_none, fEq_nil, fLe, fGt, fGe, fCmp, dFz, fTuple, sNil, sDrop, dChain, dAnd, dNot, Sl.own, Sl.put, dGen, genB, lLc, lcB, iEnZip, TW.iEnum, gT, gLen, gsC, gsN, sAsg, tAsgG, gN_eq, tSet_eq, tSetL_eq, noIo_eq, wipeR, nio_un, nio_v, nio_l, fInt, fSub, fAdd, xBin, fIx, xSl, pAt, pNo, fSl, dIf, fIs, isNone, unwipe_eq, nio_wp, sh_int, sh_bool, sh_none, eqv_int, eqv_bool, eqv_none, e, hh, c]
  | false =>
    rw [hh] at e
    simp [D_message_of, sdD, xIf, fnOf, sSeq, sSetX, xV, xL, dCall, aV, aIo, aNil, dVar, M.bind, Res.bind, M.ret, M.opt, reso, nodupB, ioIx, argsSl, backSl, tSetX, lLst, aBind, allV, dC, sizeLine_eq, sFor, iSeq, items, sRet, sIf, dtOr, dtNot, dtAnd, asB, dIsi, dIsi2, isB, tyN, dBin, two, oV, oN, dFx, xFn, aO, resA, fLen, fNe_int, fEq_int, fNe_bool, fEq_bool, fEq_none, fEq_nil, fLe, fGt, fGe, fCmp, dFz, fTuple, sNil, sDrop, dChain, dAnd, dNot, Sl.own, Sl.put, dGen, genB, lLc, lcB, iEnZip, TW.iEnum, gT, gLen, gsC, gsN, sAsg, tAsgG, gN_eq, tSet_eq, tSetL_eq, noIo_eq, wipeR, nio_un, nio_v, nio_l, fInt, fSub, fAdd, xBin, fIx, xSl, pAt, pNo, fSl, dIf, fIs, isNone, unwipe_eq, nio_wp, sh_int, sh_bool, sh_none, eqv_int, eqv_bool, eqv_none, e, hh]
def isT : PyData → Prop
  | .tuple _ => True
  | _ => False
def toE : M PyData := dCall (D_message_of) (aV (dVar 0) (aV (dVar 3) aNil))
def toLc : M (List PyData) := lLc [3] (iSeq (dVar 2)) (gN 3) tYesD toE
theorem told_eq : D_told = fnOf 3 4 (sSeq wS (sSeq lS (sSeq (sDrop nC) (sRet (dFx (xFn fTuple (aO (oV (dFz toLc)) aNil))))))) := rfl
theorem toLc_ok (hw : w ∈ wnames) (ht : ∀ d ∈ all, isT d) (hz : all.length ≤ 1000) : ∃ z, toLc [.v (.str w), .v (.int (l : Nat)), .v (.tuple all), .un] = .ok (all.map (sdD w)) [.v (.str w), .v (.int (l : Nat)), .v (.tuple all), z] := by
  obtain ⟨r', q, z, hz2, rfl⟩ := lc_map (own := [3]) (T := gN 3) (tt := tYesD) (elt := toE) (f := sdD w) (P := fun r => ∃ y, nio y = true ∧ r = [.v (.str w), .v (.int (l : Nat)), .v (.tuple all), y]) (ds := all) (acc := []) (r := [.v (.str w), .v (.int (l : Nat)), .v (.tuple all), .un]) ⟨.un, rfl, rfl⟩
    (fun d hd r hr => by
      obtain ⟨y, hy, rfl⟩ := hr
      have it := ht d hd
      cases d with
      | tuple xs =>
        obtain ⟨out, e⟩ := message_of hw xs
        have ee : toE [.v (.str w), .v (.int (l : Nat)), .v (.tuple all), .v (.tuple xs)] = .ok (sdD w (.tuple xs)) [.v (.str w), .v (.int (l : Nat)), .v (.tuple all), .v (.tuple xs)] := by
          unfold toE
          generalize D_message_of = F at e ⊢
          simp [fnOf, sSeq, sSetX, xV, xL, dCall, aV, aIo, aNil, dVar, M.bind, Res.bind, M.ret, M.opt, reso, nodupB, ioIx, argsSl, backSl, tSetX, lLst, aBind, allV, dC, sizeLine_eq, sFor, iSeq, items, sRet, sIf, dtOr, dtNot, dtAnd, asB, dIsi, dIsi2, isB, tyN, dBin, two, oV, oN, dFx, xFn, aO, resA, fLen, fNe_int, fEq_int, fNe_bool, fEq_bool, fEq_none, fEq_nil, fLe, fGt, fGe, fCmp, dFz, fTuple, sNil, sDrop, dChain, dAnd, dNot, Sl.own, Sl.put, dGen, genB, lLc, lcB, iEnZip, TW.iEnum, gT, gLen, gsC, gsN, sAsg, tAsgG, gN_eq, tSet_eq, tSetL_eq, noIo_eq, wipeR, nio_un, nio_v, nio_l, fInt, fSub, fAdd, xBin, fIx, xSl, pAt, pNo, fSl, dIf, fIs, isNone, unwipe_eq, nio_wp, sh_int, sh_bool, sh_none, eqv_int, eqv_bool, eqv_none, e]
        exact ⟨by simp [noIo_eq, hy], [.v (.str w), .v (.int (l : Nat)), .v (.tuple all), .v (.tuple xs)], [.v (.str w), .v (.int (l : Nat)), .v (.tuple all), .v (.tuple xs)], [.v (.str w), .v (.int (l : Nat)), .v (.tuple all), .v (.tuple xs)], by simp [gN_eq, wipeR, nio], rfl, ee, .v (.tuple xs), rfl, rfl⟩
      | _ => exact it.elim)
  have hn : noIo [.v (.str w), .v (.int (l : Nat)), .v (.tuple all), z] [3] = true := by simp [noIo_eq, hz2]
  have ei : (iSeq (dVar 2)) [.v (.str w), .v (.int (l : Nat)), .v (.tuple all), .un] = .ok all [.v (.str w), .v (.int (l : Nat)), .v (.tuple all), .un] := by simp [fnOf, sSeq, sSetX, xV, xL, dCall, aV, aIo, aNil, dVar, M.bind, Res.bind, M.ret, M.opt, reso, nodupB, ioIx, argsSl, backSl, tSetX, lLst, aBind, allV, dC, sizeLine_eq, sFor, iSeq, items, sRet, sIf, dtOr, dtNot, dtAnd, asB, dIsi, dIsi2, isB, tyN, dBin, two, oV, oN, dFx, xFn, aO, resA, fLen, fNe_int, fEq_int, fNe_bool, fEq_bool, fEq_none, fEq_nil, fLe, fGt, fGe, fCmp, dFz, fTuple, sNil, sDrop, dChain, dAnd, dNot, Sl.own, Sl.put, dGen, genB, lLc, lcB, iEnZip, TW.iEnum, gT, gLen, gsC, gsN, sAsg, tAsgG, gN_eq, tSet_eq, tSetL_eq, noIo_eq, wipeR, nio_un, nio_v, nio_l, fInt, fSub, fAdd, xBin, fIx, xSl, pAt, pNo, fSl, dIf, fIs, isNone, unwipe_eq, nio_wp, sh_int, sh_bool, sh_none, eqv_int, eqv_bool, eqv_none]
  refine ⟨wp .un, ?_⟩
  unfold toLc
  rw [List.nil_append] at q
  rw [lLc_ok ei, lcB_ok (sizeLine_le (by omega)) q hn]
  simp [unwipe_eq]
theorem told (g : WX w l X) {t2 : List Nat} (h : Run w l X all 0 [] t2 none) (hz : all.length ≤ 59) (hs : ∀ d ∈ all, SeqAt.shaped d = true) (ht : ∀ d ∈ all, isT d) : ∃ out, D_told [.v (.str w), .v (.int (l : Nat)), .v (.tuple all)] = .ok (.tuple (all.map (sdD w))) out := by
  obtain ⟨out, e⟩ := need_ed g h hz hs
  obtain ⟨z, e4⟩ := toLc_ok (l := l) g.hw ht (by omega)
  rw [told_eq]
  have e1 := wS_ok g [.v (.tuple all), .un]
  have e2 := lS_ok g [.v (.tuple all), .un]
  exact ⟨_, fnOf_rt rfl ((sSeq_nx e1).trans ((sSeq_nx e2).trans ((sSeq_nx (sDrop_ok (nC_ok e [.un]))).trans (sRet_ok (rd_tup e4)))))⟩
def saE : M PyData := dFx (xIf ((dBin (fIn false) (oN 0) (oV (dFz (lLst (aV (dC (.str "in")) (aV (dC (.str "inout")) aNil)))))).bind asB) (xSl (oN 2) pNo (pAt (dC (.int 2)))) (xV (dVar 2)))
def saLc : M (List PyData) := lLc [2] (iSeq (dVar 1)) (gN 2) tYesD saE
theorem said_eq : D__law_said = fnOf 2 3 (sRet (dFz saLc)) := rfl
theorem said (hw : w ∈ wnames) (ht : ∀ d ∈ all, isT d) (hz : all.length ≤ 1000) : ∃ out, D__law_said [.v (.str w), .v (.tuple all)] = .ok (.list (all.map (sdD w))) out := by
  obtain ⟨r', q, z, hz2, rfl⟩ := lc_map (own := [2]) (T := gN 2) (tt := tYesD) (elt := saE) (f := sdD w) (P := fun r => ∃ y, nio y = true ∧ r = [.v (.str w), .v (.tuple all), y]) (ds := all) (acc := []) (r := [.v (.str w), .v (.tuple all), .un]) ⟨.un, rfl, rfl⟩
    (fun d hd r hr => by
      obtain ⟨y, hy, rfl⟩ := hr
      have it := ht d hd
      cases d with
      | tuple xs =>
        have e := hidL hw
        have c := cut2 xs
        have ee : saE [.v (.str w), .v (.tuple all), .v (.tuple xs)] = .ok (sdD w (.tuple xs)) [.v (.str w), .v (.tuple all), .v (.tuple xs)] := by
          cases hh : hid w with
          | true =>
            rw [hh] at e
            simp [saE, sdD, xIf, fnOf, sSeq, sSetX, xV, xL, dCall, aV, aIo, aNil, dVar, M.bind, Res.bind, M.ret, M.opt, reso, nodupB, ioIx, argsSl, backSl, tSetX, lLst, aBind, allV, dC, sizeLine_eq, sFor, iSeq, items, sRet, sIf, dtOr, dtNot, dtAnd, asB, dIsi, dIsi2, isB, tyN, dBin, two, oV, oN, dFx, xFn, aO, resA, fLen, fNe_int, fEq_int, fNe_bool, fEq_bool, fEq_none, fEq_nil, fLe, fGt, fGe, fCmp, dFz, fTuple, sNil, sDrop, dChain, dAnd, dNot, Sl.own, Sl.put, dGen, genB, lLc, lcB, iEnZip, TW.iEnum, gT, gLen, gsC, gsN, sAsg, tAsgG, gN_eq, tSet_eq, tSetL_eq, noIo_eq, wipeR, nio_un, nio_v, nio_l, fInt, fSub, fAdd, xBin, fIx, xSl, pAt, pNo, fSl, dIf, fIs, isNone, unwipe_eq, nio_wp, sh_int, sh_bool, sh_none, eqv_int, eqv_bool, eqv_none, e, hh, c]
          | false =>
            rw [hh] at e
            simp [saE, sdD, xIf, fnOf, sSeq, sSetX, xV, xL, dCall, aV, aIo, aNil, dVar, M.bind, Res.bind, M.ret, M.opt, reso, nodupB, ioIx, argsSl, backSl, tSetX, lLst, aBind, allV, dC, sizeLine_eq, sFor, iSeq, items, sRet, sIf, dtOr, dtNot, dtAnd, asB, dIsi, dIsi2, isB, tyN, dBin, two, oV, oN, dFx, xFn, aO, resA, fLen, fNe_int, fEq_int, fNe_bool, fEq_bool, fEq_none, fEq_nil, fLe, fGt, fGe, fCmp, dFz, fTuple, sNil, sDrop, dChain, dAnd, dNot, Sl.own, Sl.put, dGen, genB, lLc, lcB, iEnZip, TW.iEnum, gT, gLen, gsC, gsN, sAsg, tAsgG, gN_eq, tSet_eq, tSetL_eq, noIo_eq, wipeR, nio_un, nio_v, nio_l, fInt, fSub, fAdd, xBin, fIx, xSl, pAt, pNo, fSl, dIf, fIs, isNone, unwipe_eq, nio_wp, sh_int, sh_bool, sh_none, eqv_int, eqv_bool, eqv_none, e, hh]
        exact ⟨by simp [noIo_eq, hy], [.v (.str w), .v (.tuple all), .v (.tuple xs)], [.v (.str w), .v (.tuple all), .v (.tuple xs)], [.v (.str w), .v (.tuple all), .v (.tuple xs)], by simp [gN_eq, wipeR, nio], rfl, ee, .v (.tuple xs), rfl, rfl⟩
      | _ => exact it.elim)
  have hn : noIo [.v (.str w), .v (.tuple all), z] [2] = true := by simp [noIo_eq, hz2]
  have ei : (iSeq (dVar 1)) [.v (.str w), .v (.tuple all), .un] = .ok all [.v (.str w), .v (.tuple all), .un] := by simp [fnOf, sSeq, sSetX, xV, xL, dCall, aV, aIo, aNil, dVar, M.bind, Res.bind, M.ret, M.opt, reso, nodupB, ioIx, argsSl, backSl, tSetX, lLst, aBind, allV, dC, sizeLine_eq, sFor, iSeq, items, sRet, sIf, dtOr, dtNot, dtAnd, asB, dIsi, dIsi2, isB, tyN, dBin, two, oV, oN, dFx, xFn, aO, resA, fLen, fNe_int, fEq_int, fNe_bool, fEq_bool, fEq_none, fEq_nil, fLe, fGt, fGe, fCmp, dFz, fTuple, sNil, sDrop, dChain, dAnd, dNot, Sl.own, Sl.put, dGen, genB, lLc, lcB, iEnZip, TW.iEnum, gT, gLen, gsC, gsN, sAsg, tAsgG, gN_eq, tSet_eq, tSetL_eq, noIo_eq, wipeR, nio_un, nio_v, nio_l, fInt, fSub, fAdd, xBin, fIx, xSl, pAt, pNo, fSl, dIf, fIs, isNone, unwipe_eq, nio_wp, sh_int, sh_bool, sh_none, eqv_int, eqv_bool, eqv_none]
  rw [List.nil_append] at q
  have e : saLc [.v (.str w), .v (.tuple all), .un] = .ok (all.map (sdD w)) (unwipe [2] [.v (.str w), .v (.tuple all), .un] [.v (.str w), .v (.tuple all), z]) := by
    unfold saLc
    rw [lLc_ok ei, lcB_ok (sizeLine_le (by omega)) q hn]
  rw [said_eq]
  exact ⟨_, fnOf_rt rfl (sRet_ok (dFz_ok e))⟩
end
end K02

end
section
namespace K02
open PySem PySem.Spec PyProof.Rows L2 TW

def liT : Tg := gT (gLen 2 (gsC (gN 13) (gsC (gN 14) gsN)))
def liAl : M Bool := (dCall (D__law_alike 6) (aV (dVar 14) (aV (dVar 17) aNil))).bind asB
def liLc : M (List PyData) := lLc [17] (iSeq (dCall (D__law_edits) (aV (dVar 2) (aV (dVar 3) (aV (dVar 11) aNil))))) (gN 17) liAl (dVar 17)
def liF : M Fl := sSetX 16 (xV (dBin fNe (oV (dFz liLc)) (oV (dFz (lLst aNil)))))
def liW : M Fl := sSetX 12 (xV (dIf ((dVar 16).bind asB) (dC .none) (dVar 13)))
def liX : M Fl := sSetX 11 (xV (dIf ((dVar 16).bind asB) (dCall (D__law_done) (aV (dVar 2) (aV (dVar 11) (aV (dVar 14) aNil)))) (dVar 11)))
def liN : M Bool := (dBin fIs (oN 12) (oV (dC .none))).bind asB
def liB : M Fl := sIf liN (sSeq liF (sSeq liW liX)) sNil
def liFor : M Fl := sFor (aBind (aV (dVar 10) aNil) iEnum) liT liB
section
variable {w : Str} {l n : Nat} {t : List Nat} {X : List Ms} {d : PyData} {all : List PyData} {a0 a1 a4 a5 a6 a7 a8 a9 a15 y13 y14 y16 y17 : Sl}
theorem liAl_ok {x : PyData} (hx : okD x) (hs : SeqAt.shaped d = true) : liAl [a0, a1, .v (.str w), .v (.int (l : Nat)), a4, a5, a6, a7, a8, a9, .v (.tuple all), .v (.tuple (nats t)), .v .none, y13, .v d, a15, y16, .v x] = .ok (sameD d x) [a0, a1, .v (.str w), .v (.int (l : Nat)), a4, a5, a6, a7, a8, a9, .v (.tuple all), .v (.tuple (nats t)), .v .none, y13, .v d, a15, y16, .v x] := by
  have hp : ∀ (k : Nat) (x : PyData), isPa k x → isPa (k + 1) x := by
    intro k
    induction k with
    | zero => intro x h; exact h.elim
    | succ k ih =>
      intro x h
      cases x with
      | tuple ys => exact ⟨h.1, fun y hy => ih y (h.2 y hy)⟩
      | list ys => exact ⟨h.1, fun y hy => ih y (h.2 y hy)⟩
      | int _ => trivial
      | str _ => trivial
      | none => trivial
      | bool _ => exact h.elim
      | dict _ => exact h.elim
  obtain ⟨out, e⟩ := alike_all 6 d x (hp 5 x hx.1) hs (okD_sh hx)
  unfold liAl
  generalize D__law_alike 6 = F at e ⊢
  simp [fnOf, sSeq, sSetX, xV, xL, dCall, aV, aIo, aNil, dVar, M.bind, Res.bind, M.ret, M.opt, reso, nodupB, ioIx, argsSl, backSl, tSetX, lLst, aBind, allV, dC, sizeLine_eq, sFor, iSeq, items, sRet, sIf, dtOr, dtNot, dtAnd, asB, dIsi, dIsi2, isB, tyN, dBin, two, oV, oN, dFx, xFn, aO, resA, fLen, fNe_int, fEq_int, fNe_bool, fEq_bool, fEq_none, fEq_nil, fLe, fGt, fGe, fCmp, dFz, fTuple, sNil, sDrop, dChain, dAnd, dNot, Sl.own, Sl.put, dGen, genB, lLc, lcB, iEnZip, TW.iEnum, gT, gLen, gsC, gsN, sAsg, tAsgG, gN_eq, tSet_eq, tSetL_eq, noIo_eq, wipeR, nio_un, nio_v, nio_l, fInt, fSub, fAdd, xBin, fIx, xSl, pAt, pNo, fSl, dIf, fIs, isNone, unwipe_eq, nio_wp, sh_int, sh_bool, sh_none, eqv_int, eqv_bool, eqv_none, e]
theorem liLc_ok (g : WX w l X) (ht : t.length ≤ 100) (hs : SeqAt.shaped d = true) (h17 : nio y17 = true) : ∃ z, nio z = true ∧ liLc [a0, a1, .v (.str w), .v (.int (l : Nat)), a4, a5, a6, a7, a8, a9, .v (.tuple all), .v (.tuple (nats t)), .v .none, y13, .v d, a15, y16, y17] = .ok ((edits w X t).filter (sameD d)) [a0, a1, .v (.str w), .v (.int (l : Nat)), a4, a5, a6, a7, a8, a9, .v (.tuple all), .v (.tuple (nats t)), .v .none, y13, .v d, a15, y16, z] := by
  obtain ⟨r', q, z, hz2, rfl⟩ := lc_flt (own := [17]) (T := gN 17) (tt := liAl) (elt := dVar 17) (f := id) (g := sameD d) (P := fun r => ∃ y, nio y = true ∧ r = [a0, a1, .v (.str w), .v (.int (l : Nat)), a4, a5, a6, a7, a8, a9, .v (.tuple all), .v (.tuple (nats t)), .v .none, y13, .v d, a15, y16, y]) (ds := edits w X t) (acc := []) (r := [a0, a1, .v (.str w), .v (.int (l : Nat)), a4, a5, a6, a7, a8, a9, .v (.tuple all), .v (.tuple (nats t)), .v .none, y13, .v d, a15, y16, y17]) ⟨y17, h17, rfl⟩
    (fun x hx r hr => by
      obtain ⟨y, hy, rfl⟩ := hr
      refine ⟨by simp [noIo_eq, hy], [a0, a1, .v (.str w), .v (.int (l : Nat)), a4, a5, a6, a7, a8, a9, .v (.tuple all), .v (.tuple (nats t)), .v .none, y13, .v d, a15, y16, .v x], [a0, a1, .v (.str w), .v (.int (l : Nat)), a4, a5, a6, a7, a8, a9, .v (.tuple all), .v (.tuple (nats t)), .v .none, y13, .v d, a15, y16, .v x], by simp [gN_eq, wipeR, nio], liAl_ok (okD_ed g hx) hs, ⟨.v x, rfl, rfl⟩, fun _ => ⟨[a0, a1, .v (.str w), .v (.int (l : Nat)), a4, a5, a6, a7, a8, a9, .v (.tuple all), .v (.tuple (nats t)), .v .none, y13, .v d, a15, y16, .v x], by simp [dVar], .v x, rfl, rfl⟩⟩)
  have hn : noIo [a0, a1, .v (.str w), .v (.int (l : Nat)), a4, a5, a6, a7, a8, a9, .v (.tuple all), .v (.tuple (nats t)), .v .none, y13, .v d, a15, y16, z] [17] = true := by simp [noIo_eq, hz2]
  obtain ⟨out, e⟩ := law_edits g ht
  have ei : (iSeq (dCall (D__law_edits) (aV (dVar 2) (aV (dVar 3) (aV (dVar 11) aNil))))) [a0, a1, .v (.str w), .v (.int (l : Nat)), a4, a5, a6, a7, a8, a9, .v (.tuple all), .v (.tuple (nats t)), .v .none, y13, .v d, a15, y16, y17] = .ok (edits w X t) [a0, a1, .v (.str w), .v (.int (l : Nat)), a4, a5, a6, a7, a8, a9, .v (.tuple all), .v (.tuple (nats t)), .v .none, y13, .v d, a15, y16, y17] := by
    generalize D__law_edits = F at e ⊢
    simp [fnOf, sSeq, sSetX, xV, xL, dCall, aV, aIo, aNil, dVar, M.bind, Res.bind, M.ret, M.opt, reso, nodupB, ioIx, argsSl, backSl, tSetX, lLst, aBind, allV, dC, sizeLine_eq, sFor, iSeq, items, sRet, sIf, dtOr, dtNot, dtAnd, asB, dIsi, dIsi2, isB, tyN, dBin, two, oV, oN, dFx, xFn, aO, resA, fLen, fNe_int, fEq_int, fNe_bool, fEq_bool, fEq_none, fEq_nil, fLe, fGt, fGe, fCmp, dFz, fTuple, sNil, sDrop, dChain, dAnd, dNot, Sl.own, Sl.put, dGen, genB, lLc, lcB, iEnZip, TW.iEnum, gT, gLen, gsC, gsN, sAsg, tAsgG, gN_eq, tSet_eq, tSetL_eq, noIo_eq, wipeR, nio_un, nio_v, nio_l, fInt, fSub, fAdd, xBin, fIx, xSl, pAt, pNo, fSl, dIf, fIs, isNone, unwipe_eq, nio_wp, sh_int, sh_bool, sh_none, eqv_int, eqv_bool, eqv_none, e]
  rw [List.nil_append, List.map_id] at q
  have b1 := flat_len (w := w) (t := t) X
  have b3 : X.length * (t.length + 1) ≤ 20 * 101 := Nat.mul_le_mul g.len.2 (by omega)
  refine ⟨wp y17, nio_wp _, ?_⟩
  unfold liLc
  rw [lLc_ok ei, lcB_ok (sizeLine_le (by unfold edits; omega)) q hn]
  simp [unwipe_eq]
theorem liF_ok (g : WX w l X) (ht : t.length ≤ 100) (hs : SeqAt.shaped d = true) (h16 : nio y16 = true) (h17 : nio y17 = true) : ∃ b z, nio z = true ∧ liF [a0, a1, .v (.str w), .v (.int (l : Nat)), a4, a5, a6, a7, a8, a9, .v (.tuple all), .v (.tuple (nats t)), .v .none, y13, .v d, a15, y16, y17] = .ok .nx [a0, a1, .v (.str w), .v (.int (l : Nat)), a4, a5, a6, a7, a8, a9, .v (.tuple all), .v (.tuple (nats t)), .v .none, y13, .v d, a15, .v (.bool b), z] ∧ (b = true ↔ d ∈ edits w X t) := by
  obtain ⟨z, hz, e⟩ := liLc_ok (a0 := a0) (a1 := a1) (a4 := a4) (a5 := a5) (a6 := a6) (a7 := a7) (a8 := a8) (a9 := a9) (a15 := a15) (y13 := y13) (y16 := y16) (all := all) g ht hs h17
  have e2 := fNe_emp (xs := (edits w X t).filter (sameD d)) fun x hx => okD_ed g (List.mem_filter.mp hx).1
  have e3 := same_mem (d := d) (t := t) g
  refine ⟨!((edits w X t).filter (sameD d)).isEmpty, z, hz, ?_, ?_⟩
  · unfold liF
    generalize (edits w X t).filter (sameD d) = fl at e e2 ⊢
    generalize liLc = L at e ⊢
    simp [fnOf, sSeq, sSetX, xV, xL, dCall, aV, aIo, aNil, dVar, M.bind, Res.bind, M.ret, M.opt, reso, nodupB, ioIx, argsSl, backSl, tSetX, lLst, aBind, allV, dC, sizeLine_eq, sFor, iSeq, items, sRet, sIf, dtOr, dtNot, dtAnd, asB, dIsi, dIsi2, isB, tyN, dBin, two, oV, oN, dFx, xFn, aO, resA, fLen, fNe_int, fEq_int, fNe_bool, fEq_bool, fEq_none, fEq_nil, fLe, fGt, fGe, fCmp, dFz, fTuple, sNil, sDrop, dChain, dAnd, dNot, Sl.own, Sl.put, dGen, genB, lLc, lcB, iEnZip, TW.iEnum, gT, gLen, gsC, gsN, sAsg, tAsgG, gN_eq, tSet_eq, tSetL_eq, noIo_eq, wipeR, nio_un, nio_v, nio_l, fInt, fSub, fAdd, xBin, fIx, xSl, pAt, pNo, fSl, dIf, fIs, isNone, unwipe_eq, nio_wp, sh_int, sh_bool, sh_none, eqv_int, eqv_bool, eqv_none, e, e2, h16]
  · rw [← e3]
    cases (edits w X t).filter (sameD d) <;> simp
theorem liW_ok {b : Bool} : liW [a0, a1, .v (.str w), .v (.int (l : Nat)), a4, a5, a6, a7, a8, a9, .v (.tuple all), .v (.tuple (nats t)), .v .none, .v (.int (n : Nat)), y14, a15, .v (.bool b), y17] = .ok .nx [a0, a1, .v (.str w), .v (.int (l : Nat)), a4, a5, a6, a7, a8, a9, .v (.tuple all), .v (.tuple (nats t)), .v (if b then .none else .int (n : Nat)), .v (.int (n : Nat)), y14, a15, .v (.bool b), y17] := by
  cases b <;> simp [liW, fnOf, sSeq, sSetX, xV, xL, dCall, aV, aIo, aNil, dVar, M.bind, Res.bind, M.ret, M.opt, reso, nodupB, ioIx, argsSl, backSl, tSetX, lLst, aBind, allV, dC, sizeLine_eq, sFor, iSeq, items, sRet, sIf, dtOr, dtNot, dtAnd, asB, dIsi, dIsi2, isB, tyN, dBin, two, oV, oN, dFx, xFn, aO, resA, fLen, fNe_int, fEq_int, fNe_bool, fEq_bool, fEq_none, fEq_nil, fLe, fGt, fGe, fCmp, dFz, fTuple, sNil, sDrop, dChain, dAnd, dNot, Sl.own, Sl.put, dGen, genB, lLc, lcB, iEnZip, TW.iEnum, gT, gLen, gsC, gsN, sAsg, tAsgG, gN_eq, tSet_eq, tSetL_eq, noIo_eq, wipeR, nio_un, nio_v, nio_l, fInt, fSub, fAdd, xBin, fIx, xSl, pAt, pNo, fSl, dIf, fIs, isNone, unwipe_eq, nio_wp, sh_int, sh_bool, sh_none, eqv_int, eqv_bool, eqv_none]
theorem liX_f {x : PyData} : liX [a0, a1, .v (.str w), .v (.int (l : Nat)), a4, a5, a6, a7, a8, a9, .v (.tuple all), .v (.tuple (nats t)), .v x, y13, .v d, a15, .v (.bool false), y17] = .ok .nx [a0, a1, .v (.str w), .v (.int (l : Nat)), a4, a5, a6, a7, a8, a9, .v (.tuple all), .v (.tuple (nats t)), .v x, y13, .v d, a15, .v (.bool false), y17] := by
  simp [liX, fnOf, sSeq, sSetX, xV, xL, dCall, aV, aIo, aNil, dVar, M.bind, Res.bind, M.ret, M.opt, reso, nodupB, ioIx, argsSl, backSl, tSetX, lLst, aBind, allV, dC, sizeLine_eq, sFor, iSeq, items, sRet, sIf, dtOr, dtNot, dtAnd, asB, dIsi, dIsi2, isB, tyN, dBin, two, oV, oN, dFx, xFn, aO, resA, fLen, fNe_int, fEq_int, fNe_bool, fEq_bool, fEq_none, fEq_nil, fLe, fGt, fGe, fCmp, dFz, fTuple, sNil, sDrop, dChain, dAnd, dNot, Sl.own, Sl.put, dGen, genB, lLc, lcB, iEnZip, TW.iEnum, gT, gLen, gsC, gsN, sAsg, tAsgG, gN_eq, tSet_eq, tSetL_eq, noIo_eq, wipeR, nio_un, nio_v, nio_l, fInt, fSub, fAdd, xBin, fIx, xSl, pAt, pNo, fSl, dIf, fIs, isNone, unwipe_eq, nio_wp, sh_int, sh_bool, sh_none, eqv_int, eqv_bool, eqv_none]
theorem liX_t {t' : List Nat} {x : PyData} (h : DoneP w t d t') : liX [a0, a1, .v (.str w), .v (.int (l : Nat)), a4, a5, a6, a7, a8, a9, .v (.tuple all), .v (.tuple (nats t)), .v x, y13, .v d, a15, .v (.bool true), y17] = .ok .nx [a0, a1, .v (.str w), .v (.int (l : Nat)), a4, a5, a6, a7, a8, a9, .v (.tuple all), (.v (.tuple (nats t'))), .v x, y13, .v d, a15, .v (.bool true), y17] := by
  obtain ⟨_, ⟨out, e⟩⟩ := h
  unfold liX
  generalize D__law_done = F at e ⊢
  simp [fnOf, sSeq, sSetX, xV, xL, dCall, aV, aIo, aNil, dVar, M.bind, Res.bind, M.ret, M.opt, reso, nodupB, ioIx, argsSl, backSl, tSetX, lLst, aBind, allV, dC, sizeLine_eq, sFor, iSeq, items, sRet, sIf, dtOr, dtNot, dtAnd, asB, dIsi, dIsi2, isB, tyN, dBin, two, oV, oN, dFx, xFn, aO, resA, fLen, fNe_int, fEq_int, fNe_bool, fEq_bool, fEq_none, fEq_nil, fLe, fGt, fGe, fCmp, dFz, fTuple, sNil, sDrop, dChain, dAnd, dNot, Sl.own, Sl.put, dGen, genB, lLc, lcB, iEnZip, TW.iEnum, gT, gLen, gsC, gsN, sAsg, tAsgG, gN_eq, tSet_eq, tSetL_eq, noIo_eq, wipeR, nio_un, nio_v, nio_l, fInt, fSub, fAdd, xBin, fIx, xSl, pAt, pNo, fSl, dIf, fIs, isNone, unwipe_eq, nio_wp, sh_int, sh_bool, sh_none, eqv_int, eqv_bool, eqv_none, e]
theorem liN_t : liN [a0, a1, .v (.str w), .v (.int (l : Nat)), a4, a5, a6, a7, a8, a9, .v (.tuple all), .v (.tuple (nats t)), .v .none, y13, y14, a15, y16, y17] = .ok true [a0, a1, .v (.str w), .v (.int (l : Nat)), a4, a5, a6, a7, a8, a9, .v (.tuple all), .v (.tuple (nats t)), .v .none, y13, y14, a15, y16, y17] := by
  simp [liN, fnOf, sSeq, sSetX, xV, xL, dCall, aV, aIo, aNil, dVar, M.bind, Res.bind, M.ret, M.opt, reso, nodupB, ioIx, argsSl, backSl, tSetX, lLst, aBind, allV, dC, sizeLine_eq, sFor, iSeq, items, sRet, sIf, dtOr, dtNot, dtAnd, asB, dIsi, dIsi2, isB, tyN, dBin, two, oV, oN, dFx, xFn, aO, resA, fLen, fNe_int, fEq_int, fNe_bool, fEq_bool, fEq_none, fEq_nil, fLe, fGt, fGe, fCmp, dFz, fTuple, sNil, sDrop, dChain, dAnd, dNot, Sl.own, Sl.put, dGen, genB, lLc, lcB, iEnZip, TW.iEnum, gT, gLen, gsC, gsN, sAsg, tAsgG, gN_eq, tSet_eq, tSetL_eq, noIo_eq, wipeR, nio_un, nio_v, nio_l, fInt, fSub, fAdd, xBin, fIx, xSl, pAt, pNo, fSl, dIf, fIs, isNone, unwipe_eq, nio_wp, sh_int, sh_bool, sh_none, eqv_int, eqv_bool, eqv_none]
theorem liN_f {m : Nat} : liN [a0, a1, .v (.str w), .v (.int (l : Nat)), a4, a5, a6, a7, a8, a9, .v (.tuple all), .v (.tuple (nats t)), .v (.int (m : Nat)), y13, y14, a15, y16, y17] = .ok false [a0, a1, .v (.str w), .v (.int (l : Nat)), a4, a5, a6, a7, a8, a9, .v (.tuple all), .v (.tuple (nats t)), .v (.int (m : Nat)), y13, y14, a15, y16, y17] := by
  simp [liN, fnOf, sSeq, sSetX, xV, xL, dCall, aV, aIo, aNil, dVar, M.bind, Res.bind, M.ret, M.opt, reso, nodupB, ioIx, argsSl, backSl, tSetX, lLst, aBind, allV, dC, sizeLine_eq, sFor, iSeq, items, sRet, sIf, dtOr, dtNot, dtAnd, asB, dIsi, dIsi2, isB, tyN, dBin, two, oV, oN, dFx, xFn, aO, resA, fLen, fNe_int, fEq_int, fNe_bool, fEq_bool, fEq_none, fEq_nil, fLe, fGt, fGe, fCmp, dFz, fTuple, sNil, sDrop, dChain, dAnd, dNot, Sl.own, Sl.put, dGen, genB, lLc, lcB, iEnZip, TW.iEnum, gT, gLen, gsC, gsN, sAsg, tAsgG, gN_eq, tSet_eq, tSetL_eq, noIo_eq, wipeR, nio_un, nio_v, nio_l, fInt, fSub, fAdd, xBin, fIx, xSl, pAt, pNo, fSl, dIf, fIs, isNone, unwipe_eq, nio_wp, sh_int, sh_bool, sh_none, eqv_int, eqv_bool, eqv_none]
theorem liT_ok {x : Sl} (h4 : nio y13 = true) (h5 : nio y14 = true) : liT (enD (d, n)) [a0, a1, .v (.str w), .v (.int (l : Nat)), a4, a5, a6, a7, a8, a9, .v (.tuple all), .v (.tuple (nats t)), x, y13, y14, a15, y16, y17] = some [a0, a1, .v (.str w), .v (.int (l : Nat)), a4, a5, a6, a7, a8, a9, .v (.tuple all), .v (.tuple (nats t)), x, .v (.int (n : Nat)), .v d, a15, y16, y17] := by
  simp [liT, enD, gT, gLen, gsC, gsN, gN_eq, h4, h5]
theorem li_skip {m : Nat} : ∀ (ds : List PyData) (n : Nat) (y13 y14 : Sl), nio y13 = true → nio y14 = true → ∃ z13 z14, nio z13 = true ∧ nio z14 = true ∧ forF liT liB ((ds.zipIdx n).map enD) [a0, a1, .v (.str w), .v (.int (l : Nat)), a4, a5, a6, a7, a8, a9, .v (.tuple all), .v (.tuple (nats t)), .v (.int (m : Nat)), y13, y14, a15, y16, y17] = .ok .nx [a0, a1, .v (.str w), .v (.int (l : Nat)), a4, a5, a6, a7, a8, a9, .v (.tuple all), .v (.tuple (nats t)), .v (.int (m : Nat)), z13, z14, a15, y16, y17]
  | [], n, y13, y14, h1, h2 => ⟨y13, y14, h1, h2, rfl⟩
  | d :: ds, n, y13, y14, h1, h2 => by
    obtain ⟨z13, z14, k1, k2, q⟩ := li_skip (m := m) ds (n + 1) (.v (.int (n : Nat))) (.v d) rfl rfl
    refine ⟨z13, z14, k1, k2, ?_⟩
    have e : liB [a0, a1, .v (.str w), .v (.int (l : Nat)), a4, a5, a6, a7, a8, a9, .v (.tuple all), .v (.tuple (nats t)), .v (.int (m : Nat)), .v (.int (n : Nat)), .v d, a15, y16, y17] = .ok .nx [a0, a1, .v (.str w), .v (.int (l : Nat)), a4, a5, a6, a7, a8, a9, .v (.tuple all), .v (.tuple (nats t)), .v (.int (m : Nat)), .v (.int (n : Nat)), .v d, a15, y16, y17] := sIf_no liN_f
    simp only [List.zipIdx_cons, List.map_cons, forF, liT_ok h1 h2, e]
    exact q
def wrD : Option Nat → PyData
  | none => .none
  | some m => .int (m : Nat)
theorem li_loop (g : WX w l X) {ds : List PyData} {t2 : List Nat} {o : Option Nat} (h : Run w l X ds n t t2 o) : t.length + ds.length ≤ 59 → (∀ d ∈ ds, SeqAt.shaped d = true) → ∀ y13 y14 y16 y17, nio y13 = true → nio y14 = true → nio y16 = true → nio y17 = true →
    ∃ z13 z14 z16 z17, nio z13 = true ∧ nio z14 = true ∧ nio z16 = true ∧ nio z17 = true ∧ forF liT liB ((ds.zipIdx n).map enD) [a0, a1, .v (.str w), .v (.int (l : Nat)), a4, a5, a6, a7, a8, a9, .v (.tuple all), .v (.tuple (nats t)), .v .none, y13, y14, a15, y16, y17] = .ok .nx [a0, a1, .v (.str w), .v (.int (l : Nat)), a4, a5, a6, a7, a8, a9, .v (.tuple all), .v (.tuple (nats t2)), .v (wrD o), z13, z14, a15, z16, z17] := by
  induction h with
  | nil => exact fun _ _ y13 y14 y16 y17 h1 h2 h3 h4 => ⟨y13, y14, y16, y17, h1, h2, h3, h4, rfl⟩
  | @bad d ds n t hn =>
    intro hz hs y13 y14 y16 y17 h1 h2 h3 h4
    rw [List.length_cons] at hz
    obtain ⟨b, z, k, e, hb⟩ := liF_ok (a0 := a0) (a1 := a1) (a4 := a4) (a5 := a5) (a6 := a6) (a7 := a7) (a8 := a8) (a9 := a9) (a15 := a15) (y13 := .v (.int (n : Nat))) (y16 := y16) (all := all) g (t := t) (d := d) (by omega) (hs d List.mem_cons_self) h3 h4
    have hb1 : b = false := by
      cases b with
      | false => rfl
      | true => exact absurd (hb.mp rfl) hn
    subst hb1
    obtain ⟨z13, z14, k1, k2, q⟩ := li_skip (a0 := a0) (a1 := a1) (a4 := a4) (a5 := a5) (a6 := a6) (a7 := a7) (a8 := a8) (a9 := a9) (a15 := a15) (y16 := .v (.bool false)) (y17 := z) (all := all) (w := w) (l := l) (t := t) (m := n) ds (n + 1) (.v (.int (n : Nat))) (.v d) rfl rfl
    refine ⟨z13, z14, .v (.bool false), z, k1, k2, rfl, k, ?_⟩
    have e2 : liB [a0, a1, .v (.str w), .v (.int (l : Nat)), a4, a5, a6, a7, a8, a9, .v (.tuple all), .v (.tuple (nats t)), .v .none, .v (.int (n : Nat)), .v d, a15, y16, y17] = .ok .nx [a0, a1, .v (.str w), .v (.int (l : Nat)), a4, a5, a6, a7, a8, a9, .v (.tuple all), .v (.tuple (nats t)), .v (.int (n : Nat)), .v (.int (n : Nat)), .v d, a15, .v (.bool false), z] := (sIf_t liN_t).trans ((sSeq_nx e).trans ((sSeq_nx liW_ok).trans liX_f))
    simp only [List.zipIdx_cons, List.map_cons, forF, liT_ok h1 h2, e2]
    exact q
  | @good d ds n t t' t2 o hm hd hl hlt hr ih =>
    intro hz hs y13 y14 y16 y17 h1 h2 h3 h4
    rw [List.length_cons] at hz
    obtain ⟨b, z, k, e, hb⟩ := liF_ok (a0 := a0) (a1 := a1) (a4 := a4) (a5 := a5) (a6 := a6) (a7 := a7) (a8 := a8) (a9 := a9) (a15 := a15) (y13 := .v (.int (n : Nat))) (y16 := y16) (all := all) g (t := t) (d := d) (by omega) (hs d List.mem_cons_self) h3 h4
    have hb1 : b = true := hb.mpr hm
    subst hb1
    obtain ⟨z13, z14, z16, z17, k1, k2, k3, k4, q⟩ := ih (by omega) (fun x hx => hs x (List.mem_cons_of_mem _ hx)) (.v (.int (n : Nat))) (.v d) (.v (.bool true)) z rfl rfl rfl k
    refine ⟨z13, z14, z16, z17, k1, k2, k3, k4, ?_⟩
    have e2 : liB [a0, a1, .v (.str w), .v (.int (l : Nat)), a4, a5, a6, a7, a8, a9, .v (.tuple all), .v (.tuple (nats t)), .v .none, .v (.int (n : Nat)), .v d, a15, y16, y17] = .ok .nx [a0, a1, .v (.str w), .v (.int (l : Nat)), a4, a5, a6, a7, a8, a9, .v (.tuple all), (.v (.tuple (nats t'))), .v .none, .v (.int (n : Nat)), .v d, a15, .v (.bool true), z] := (sIf_t liN_t).trans ((sSeq_nx e).trans ((sSeq_nx liW_ok).trans (liX_t hd)))
    simp only [List.zipIdx_cons, List.map_cons, forF, liT_ok h1 h2, e2]
    exact q
theorem liFor_ok (g : WX w l X) {t2 : List Nat} {o : Option Nat} (h : Run w l X all 0 [] t2 o) (hz : all.length ≤ 59) (hs : ∀ d ∈ all, SeqAt.shaped d = true) (h1 : nio y13 = true) (h2 : nio y14 = true) (h3 : nio y16 = true) (h4 : nio y17 = true) :
    ∃ z13 z14 z16 z17, nio z13 = true ∧ nio z14 = true ∧ nio z16 = true ∧ nio z17 = true ∧ liFor [a0, a1, .v (.str w), .v (.int (l : Nat)), a4, a5, a6, a7, a8, a9, .v (.tuple all), .v (.tuple []), .v .none, y13, y14, a15, y16, y17] = .ok .nx [a0, a1, .v (.str w), .v (.int (l : Nat)), a4, a5, a6, a7, a8, a9, .v (.tuple all), .v (.tuple (nats t2)), .v (wrD o), z13, z14, a15, z16, z17] := by
  obtain ⟨z13, z14, z16, z17, k1, k2, k3, k4, q⟩ := li_loop (a0 := a0) (a1 := a1) (a4 := a4) (a5 := a5) (a6 := a6) (a7 := a7) (a8 := a8) (a9 := a9) (a15 := a15) (all := all) g h (by simpa using hz) hs y13 y14 y16 y17 h1 h2 h3 h4
  refine ⟨z13, z14, z16, z17, k1, k2, k3, k4, ?_⟩
  have ei : (aBind (aV (dVar 10) aNil) iEnum) [a0, a1, .v (.str w), .v (.int (l : Nat)), a4, a5, a6, a7, a8, a9, .v (.tuple all), .v (.tuple []), .v .none, y13, y14, a15, y16, y17] = .ok ((all.zipIdx 0).map enD) [a0, a1, .v (.str w), .v (.int (l : Nat)), a4, a5, a6, a7, a8, a9, .v (.tuple all), .v (.tuple []), .v .none, y13, y14, a15, y16, y17] := rfl
  exact (sFor_ok ei).trans q
end
end K02

end
section
namespace K02
open PySem PySem.Spec PyProof.Rows L2 TW

def hasPut (w : Str) (l : Int) : Bool := (msgs w l).any (sameD (Ms.one "put" 0).d)
theorem all_put : ∀ w ∈ wnames, ∀ l ∈ [(1 : Int), 2, 3], hasPut w l = true := by decide +kernel
theorem put_mem {w : Str} {l : Nat} {X : List Ms} (g : WX w l X) : Ms.one "put" 0 ∈ X := by
  have h := all_put w g.hw (l : Nat) (lI g.hl)
  unfold hasPut at h
  rw [g.e] at h
  obtain ⟨d, hd, e⟩ := List.any_eq_true.mp h
  obtain ⟨x, hx, rfl⟩ := List.mem_map.mp hd
  rw [ms_inj (sameD_eq _ _ e)]
  exact hx
theorem ed_pos {w : Str} {l : Nat} {X : List Ms} (g : WX w l X) (t : List Nat) : 1 ≤ (edits w X t).length := by
  have h : ∃ d, d ∈ edits w X t := by
    cases hh : hid w with
    | true => exact ⟨ext "put" 0 0, mem_edits.mpr ⟨_, put_mem g, (mem_edH hh).mpr ⟨0, rfl, .inl ⟨rfl, by omega⟩⟩⟩⟩
    | false => exact ⟨_, mem_edits.mpr ⟨_, put_mem g, (mem_edN hh).mpr ⟨rfl, fun h => absurd h (by decide +kernel), fun h => absurd h (by decide +kernel)⟩⟩⟩
  obtain ⟨d, hd⟩ := h
  exact List.length_pos_of_mem hd
theorem atI_last {α : Type} (xs : List α) (x : α) : atI (xs ++ [x]) (-1) = some x := by
  have h1 : ¬ (0 : Int) ≤ -1 := by omega
  have h2 : -(((xs ++ [x]).length : Nat) : Int) ≤ -1 := by simp; omega
  have h3 : (-1 + (((xs ++ [x]).length : Nat) : Int)).toNat = xs.length := by simp; omega
  unfold atI ixN
  rw [if_neg h1, if_pos h2, Option.bind_some, h3]
  simp
theorem call_pick_io {r0 : List Sl} {ns : List Int} {i h c : Int} {de : M PyData} {ds : List PyData} (hd : de (.io (row ns i h c) :: r0) = .ok (.list ds) (.io (row ns i h c) :: r0)) (hl : 1 ≤ ds.length) (hl2 : ds.length < 1073741824) (hi : 0 ≤ i) :
    ∃ (j : Nat) (d : PyData) (i' h' c' : Int), ds[j]? = some d ∧ 0 ≤ i' ∧ dCall D__law_pick (aIo 0 (aV de aNil)) (.io (row ns i h c) :: r0) = .ok d (.io (row ns i' h' c') :: r0) := by
  obtain ⟨j, d, i', h', c', out, hj, hi', e⟩ := pick (ns := ns) (h := h) (c := c) hl hl2 hi
  refine ⟨j, d, i', h', c', hj, hi', ?_⟩
  simp [dCall, aIo, aV, aNil, M.bind, Res.bind, M.ret, Sl.own, hd, nodupB, ioIx, argsSl, e, backSl, Sl.put]
def hiL : M PyData := dBin fIx (oN 5) (oV (dNeg (dC (.int 1))))
def hiE : M PyData := dCall (D__law_edits) (aV (dVar 1) (aV (dVar 2) (aV hiL aNil)))
def hi1 : M Fl := sSetX 7 (xV (dCall (D__law_pick) (aIo 0 (aV hiE aNil))))
def hi2 : M Fl := sDrop (mOwn 4 fAppend (aV (dVar 7) aNil))
def hi3 : M Fl := sDrop (mOwn 5 fAppend (aV (dCall (D__law_done) (aV (dVar 1) (aV hiL (aV (dVar 7) aNil)))) aNil))
def hiB : M Fl := sSeq hi1 (sSeq hi2 hi3)
def hiIt : M (List PyData) := aBind (aV (dVar 3) aNil) iRange1
def hiFor : M Fl := sFor hiIt (gN 6) hiB
def hi0 : M Fl := sPar [4, 5] (axCons (xL (lLst aNil)) (axCons (xL (lLst (aV (dTup aNil) aNil))) axNil))
theorem history_eq : D__law_history = fnOf 4 8 (sSeq hi0 (sSeq hiFor (sRet (dTup (aV (dFx (xFn fTuple (aO (oN 4) aNil))) (aV (dVar 5) aNil)))))) := rfl
section
variable {w : Str} {l m : Nat} {t : List Nat} {X : List Ms} {d : PyData} {ns : List Int} {i h c : Int} {es ts : List PyData} {y6 y7 : Sl}
theorem hiL_ok : hiL [.io (row ns i h c), .v (.str w), .v (.int (l : Nat)), .v (.int (m : Nat)), .l es, .l (ts ++ [.tuple (nats t)]), y6, y7] = .ok (.tuple (nats t)) [.io (row ns i h c), .v (.str w), .v (.int (l : Nat)), .v (.int (m : Nat)), .l es, .l (ts ++ [.tuple (nats t)]), y6, y7] := by
  have e := atI_last ts (.tuple (nats t))
  simp [hiL, dNeg, fnOf, sSeq, sSetX, xV, xL, dCall, aV, aIo, aNil, dVar, M.bind, Res.bind, M.ret, M.opt, reso, nodupB, ioIx, argsSl, backSl, tSetX, lLst, aBind, allV, dC, sizeLine_eq, sFor, iSeq, items, sRet, sIf, dtOr, dtNot, dtAnd, asB, dIsi, dIsi2, isB, tyN, dBin, two, oV, oN, dFx, xFn, aO, resA, fLen, fNe_int, fEq_int, fNe_bool, fEq_bool, fEq_none, fEq_nil, fLe, fGt, fGe, fCmp, dFz, fTuple, sNil, sDrop, dChain, dAnd, dNot, Sl.own, Sl.put, dGen, genB, lLc, lcB, iEnZip, TW.iEnum, gT, gLen, gsC, gsN, sAsg, tAsgG, gN_eq, tSet_eq, tSetL_eq, noIo_eq, wipeR, nio_un, nio_v, nio_l, fInt, fSub, fAdd, xBin, fIx, xSl, pAt, pNo, fSl, dIf, fIs, isNone, unwipe_eq, nio_wp, sh_int, sh_bool, sh_none, eqv_int, eqv_bool, eqv_none, e]
theorem hiE_ok (g : WX w l X) (ht : t.length ≤ 100) : hiE [.io (row ns i h c), .v (.str w), .v (.int (l : Nat)), .v (.int (m : Nat)), .l es, .l (ts ++ [.tuple (nats t)]), y6, y7] = .ok (.list (edits w X t)) [.io (row ns i h c), .v (.str w), .v (.int (l : Nat)), .v (.int (m : Nat)), .l es, .l (ts ++ [.tuple (nats t)]), y6, y7] := by
  obtain ⟨out, e⟩ := law_edits g ht
  have eL := hiL_ok (w := w) (l := l) (m := m) (t := t) (ns := ns) (i := i) (h := h) (c := c) (es := es) (ts := ts) (y6 := y6) (y7 := y7)
  unfold hiE
  generalize D__law_edits = F at e ⊢
  generalize hiL = L at eL ⊢
  simp [fnOf, sSeq, sSetX, xV, xL, dCall, aV, aIo, aNil, dVar, M.bind, Res.bind, M.ret, M.opt, reso, nodupB, ioIx, argsSl, backSl, tSetX, lLst, aBind, allV, dC, sizeLine_eq, sFor, iSeq, items, sRet, sIf, dtOr, dtNot, dtAnd, asB, dIsi, dIsi2, isB, tyN, dBin, two, oV, oN, dFx, xFn, aO, resA, fLen, fNe_int, fEq_int, fNe_bool, fEq_bool, fEq_none, fEq_nil, fLe, fGt, fGe, fCmp, dFz, fTuple, sNil, sDrop, dChain, dAnd, dNot, Sl.own, Sl.put, dGen, genB, lLc, lcB, iEnZip, TW.iEnum, gT, gLen, gsC, gsN, sAsg, tAsgG, gN_eq, tSet_eq, tSetL_eq, noIo_eq, wipeR, nio_un, nio_v, nio_l, fInt, fSub, fAdd, xBin, fIx, xSl, pAt, pNo, fSl, dIf, fIs, isNone, unwipe_eq, nio_wp, sh_int, sh_bool, sh_none, eqv_int, eqv_bool, eqv_none, e, eL]
theorem hi1_ok (g : WX w l X) (ht : t.length ≤ 100) (hi : 0 ≤ i) (h7 : nio y7 = true) : ∃ (d : PyData) (i' h' c' : Int), d ∈ edits w X t ∧ 0 ≤ i' ∧ hi1 [.io (row ns i h c), .v (.str w), .v (.int (l : Nat)), .v (.int (m : Nat)), .l es, .l (ts ++ [.tuple (nats t)]), y6, y7] = .ok .nx [.io (row ns i' h' c'), .v (.str w), .v (.int (l : Nat)), .v (.int (m : Nat)), .l es, .l (ts ++ [.tuple (nats t)]), y6, .v d] := by
  have b1 := flat_len (w := w) (t := t) X
  have b3 : X.length * (t.length + 1) ≤ 20 * 101 := Nat.mul_le_mul g.len.2 (by omega)
  obtain ⟨j, d, i', h', c', hj, hi', e⟩ := call_pick_io (hiE_ok (m := m) (es := es) (ts := ts) (y6 := y6) (y7 := y7) (ns := ns) (i := i) (h := h) (c := c) g ht) (ed_pos g t) (by unfold edits; omega) hi
  refine ⟨d, i', h', c', List.mem_of_getElem? hj, hi', ?_⟩
  unfold hi1
  generalize dCall D__law_pick (aIo 0 (aV hiE aNil)) = F at e ⊢
  simp [fnOf, sSeq, sSetX, xV, xL, dCall, aV, aIo, aNil, dVar, M.bind, Res.bind, M.ret, M.opt, reso, nodupB, ioIx, argsSl, backSl, tSetX, lLst, aBind, allV, dC, sizeLine_eq, sFor, iSeq, items, sRet, sIf, dtOr, dtNot, dtAnd, asB, dIsi, dIsi2, isB, tyN, dBin, two, oV, oN, dFx, xFn, aO, resA, fLen, fNe_int, fEq_int, fNe_bool, fEq_bool, fEq_none, fEq_nil, fLe, fGt, fGe, fCmp, dFz, fTuple, sNil, sDrop, dChain, dAnd, dNot, Sl.own, Sl.put, dGen, genB, lLc, lcB, iEnZip, TW.iEnum, gT, gLen, gsC, gsN, sAsg, tAsgG, gN_eq, tSet_eq, tSetL_eq, noIo_eq, wipeR, nio_un, nio_v, nio_l, fInt, fSub, fAdd, xBin, fIx, xSl, pAt, pNo, fSl, dIf, fIs, isNone, unwipe_eq, nio_wp, sh_int, sh_bool, sh_none, eqv_int, eqv_bool, eqv_none, e, h7]
theorem hi2_ok {r5 : Sl} (hz : es.length < 10000) : hi2 [.io (row ns i h c), .v (.str w), .v (.int (l : Nat)), .v (.int (m : Nat)), .l es, r5, y6, .v d] = .ok .nx [.io (row ns i h c), .v (.str w), .v (.int (l : Nat)), .v (.int (m : Nat)), .l (es ++ [d]), r5, y6, .v d] := by
  have hz : es.length < 16777216 := by omega
  simp [hi2, fnOf, sSeq, sSetX, xV, xL, dCall, aV, aIo, aNil, dVar, M.bind, Res.bind, M.ret, M.opt, reso, nodupB, ioIx, argsSl, backSl, tSetX, lLst, aBind, allV, dC, sizeLine_eq, sFor, iSeq, items, sRet, sIf, dtOr, dtNot, dtAnd, asB, dIsi, dIsi2, isB, tyN, dBin, two, oV, oN, dFx, xFn, aO, resA, fLen, fNe_int, fEq_int, fNe_bool, fEq_bool, fEq_none, fEq_nil, fLe, fGt, fGe, fCmp, dFz, fTuple, sNil, sDrop, dChain, dAnd, dNot, Sl.own, Sl.put, dGen, genB, lLc, lcB, iEnZip, TW.iEnum, gT, gLen, gsC, gsN, sAsg, tAsgG, gN_eq, tSet_eq, tSetL_eq, noIo_eq, wipeR, nio_un, nio_v, nio_l, fInt, fSub, fAdd, xBin, fIx, xSl, pAt, pNo, fSl, dIf, fIs, isNone, unwipe_eq, nio_wp, sh_int, sh_bool, sh_none, eqv_int, eqv_bool, eqv_none, mOwn, ownAt, setAt, fAppend, hz]
theorem hi3_ok {r4 : Sl} {t' : List Nat} (hz : ts.length < 10000) (hd : DoneP w t d t') : hi3 [.io (row ns i h c), .v (.str w), .v (.int (l : Nat)), .v (.int (m : Nat)), r4, .l (ts ++ [.tuple (nats t)]), y6, .v d] = .ok .nx [.io (row ns i h c), .v (.str w), .v (.int (l : Nat)), .v (.int (m : Nat)), r4, .l (ts ++ [.tuple (nats t)] ++ [.tuple (nats t')]), y6, .v d] := by
  obtain ⟨_, ⟨out, e⟩⟩ := hd
  have hz : ts.length + 1 < 16777216 := by omega
  have e2 := atI_last ts (.tuple (nats t))
  unfold hi3
  generalize D__law_done = F at e ⊢
  simp [hiL, dNeg, fnOf, sSeq, sSetX, xV, xL, dCall, aV, aIo, aNil, dVar, M.bind, Res.bind, M.ret, M.opt, reso, nodupB, ioIx, argsSl, backSl, tSetX, lLst, aBind, allV, dC, sizeLine_eq, sFor, iSeq, items, sRet, sIf, dtOr, dtNot, dtAnd, asB, dIsi, dIsi2, isB, tyN, dBin, two, oV, oN, dFx, xFn, aO, resA, fLen, fNe_int, fEq_int, fNe_bool, fEq_bool, fEq_none, fEq_nil, fLe, fGt, fGe, fCmp, dFz, fTuple, sNil, sDrop, dChain, dAnd, dNot, Sl.own, Sl.put, dGen, genB, lLc, lcB, iEnZip, TW.iEnum, gT, gLen, gsC, gsN, sAsg, tAsgG, gN_eq, tSet_eq, tSetL_eq, noIo_eq, wipeR, nio_un, nio_v, nio_l, fInt, fSub, fAdd, xBin, fIx, xSl, pAt, pNo, fSl, dIf, fIs, isNone, unwipe_eq, nio_wp, sh_int, sh_bool, sh_none, eqv_int, eqv_bool, eqv_none, mOwn, ownAt, setAt, fAppend, hz, e, e2]
/-- the loop's state after k edits -/
def hiP (w : Str) (l m : Nat) (X : List Ms) (ns : List Int) (k : Nat) (r : List Sl) : Prop := ∃ (i h c : Int) (es ts : List PyData) (t : List Nat) (y6 y7 : Sl), 0 ≤ i ∧ nio y6 = true ∧ nio y7 = true ∧ es.length = k ∧ ts.length = k ∧ Run w l X es 0 [] t none ∧ (∀ d ∈ es, ∃ t, d ∈ edits w X t) ∧ r = [.io (row ns i h c), .v (.str w), .v (.int (l : Nat)), .v (.int (m : Nat)), .l es, .l (ts ++ [.tuple (nats t)]), y6, y7]
theorem hi_step (g : WX w l X) {k : Nat} {r : List Sl} {d : PyData} (hk : k ≤ 50) (hr : hiP w l m X ns k r) : ∃ r1 r2, gN 6 d r = some r1 ∧ (hiB r1 = .ok .nx r2 ∨ hiB r1 = .ok .ct r2) ∧ hiP w l m X ns (k + 1) r2 := by
  obtain ⟨i, h, c, es, ts, t, y6, y7, hi, h6, h7, hes, hts, hr, hall, rfl⟩ := hr
  have hlen := run_len hr
  simp only [List.length_nil, Nat.zero_add] at hlen
  have hlet := run_let hr (by simp)
  obtain ⟨x, i', h', c', hx, hi', e1⟩ := hi1_ok (m := m) (es := es) (ts := ts) (t := t) (y6 := .v d) (y7 := y7) (ns := ns) (i := i) (h := h) (c := c) g (by omega) hi h7
  obtain ⟨t', hd, hl1, hl2⟩ := done_law g (by omega) hlet hx
  have e2 := hi2_ok (w := w) (l := l) (m := m) (d := x) (ns := ns) (i := i') (h := h') (c := c') (es := es) (y6 := .v d) (r5 := .l (ts ++ [.tuple (nats t)])) (by omega)
  have e3 := hi3_ok (w := w) (l := l) (m := m) (d := x) (ns := ns) (i := i') (h := h') (c := c') (ts := ts) (y6 := .v d) (r4 := .l (es ++ [x])) (by omega) hd
  have eb : hiB [.io (row ns i h c), .v (.str w), .v (.int (l : Nat)), .v (.int (m : Nat)), .l es, .l (ts ++ [.tuple (nats t)]), .v d, y7] = .ok .nx [.io (row ns i' h' c'), .v (.str w), .v (.int (l : Nat)), .v (.int (m : Nat)), .l (es ++ [x]), .l (ts ++ [.tuple (nats t)] ++ [.tuple (nats t')]), .v d, .v x] := (sSeq_nx e1).trans ((sSeq_nx e2).trans e3)
  have eg : gN 6 d [.io (row ns i h c), .v (.str w), .v (.int (l : Nat)), .v (.int (m : Nat)), .l es, .l (ts ++ [.tuple (nats t)]), y6, y7] = some [.io (row ns i h c), .v (.str w), .v (.int (l : Nat)), .v (.int (m : Nat)), .l es, .l (ts ++ [.tuple (nats t)]), .v d, y7] := by simp [gN_eq, h6]
  have hal2 : ∀ d ∈ es ++ [x], ∃ t, d ∈ edits w X t := fun y hy => by
    rcases List.mem_append.mp hy with hy | hy
    · exact hall y hy
    · exact ⟨t, by rw [List.mem_singleton.mp hy]; exact hx⟩
  refine ⟨_, _, eg, .inl eb, ?_⟩
  exact ⟨i', h', c', es ++ [x], ts ++ [.tuple (nats t)], t', .v d, .v x, hi', rfl, rfl, by simp [hes], by simp [hts], run_snoc hr rfl hx hd hl1 hl2, hal2, rfl⟩
theorem hiFor_ok (g : WX w l X) (hm : m ≤ 50) (hi : 0 ≤ i) : ∃ (i' h' c' : Int) (es ts : List PyData) (t : List Nat) (y6 y7 : Sl), 0 ≤ i' ∧ es.length = m ∧ Run w l X es 0 [] t none ∧ (∀ d ∈ es, ∃ t, d ∈ edits w X t) ∧
    hiFor [.io (row ns i h c), .v (.str w), .v (.int (l : Nat)), .v (.int (m : Nat)), .l [], .l [.tuple []], .un, .un] = .ok .nx [.io (row ns i' h' c'), .v (.str w), .v (.int (l : Nat)), .v (.int (m : Nat)), .l es, .l (ts ++ [.tuple (nats t)]), y6, y7] := by
  have h0 : hiP w l m X ns 0 [.io (row ns i h c), .v (.str w), .v (.int (l : Nat)), .v (.int (m : Nat)), .l [], .l [.tuple []], .un, .un] := ⟨i, h, c, [], [], [], .un, .un, hi, rfl, rfl, rfl, rfl, .nil, fun _ h => absurd h (by simp), rfl⟩
  obtain ⟨r', q, hp⟩ := for_inv (T := gN 6) (b := hiB) (P := hiP w l m X ns) (ds := rangeD 0 m) (k := 0) (r := [.io (row ns i h c), .v (.str w), .v (.int (l : Nat)), .v (.int (m : Nat)), .l [], .l [.tuple []], .un, .un]) h0
    (fun j d r hj hr => by
      have hjl := (List.getElem?_eq_some_iff.mp hj).1
      rw [rangeD_len] at hjl
      exact hi_step g (by omega) hr)
  obtain ⟨i', h', c', es, ts, t, y6, y7, hi', h6, h7, hes, hts, hr, hall, rfl⟩ := hp
  have ei : hiIt [.io (row ns i h c), .v (.str w), .v (.int (l : Nat)), .v (.int (m : Nat)), .l [], .l [.tuple []], .un, .un] = .ok (rangeD 0 m) [.io (row ns i h c), .v (.str w), .v (.int (l : Nat)), .v (.int (m : Nat)), .l [], .l [.tuple []], .un, .un] := range1_ok rfl (by omega)
  rw [rangeD_len, Nat.zero_add] at hes
  refine ⟨i', h', c', es, ts, t, y6, y7, hi', hes, hr, hall, ?_⟩
  unfold hiFor
  rw [sFor_ok ei, q]
theorem history (g : WX w l X) (hm : m ≤ 50) (hi : 0 ≤ i) : ∃ (i' h' c' : Int) (es ts : List PyData) (t : List Nat), 0 ≤ i' ∧ es.length = m ∧ Run w l X es 0 [] t none ∧ (∀ d ∈ es, ∃ t, d ∈ edits w X t) ∧
    ∃ out, D__law_history [.io (row ns i h c), .v (.str w), .v (.int (l : Nat)), .v (.int (m : Nat))] = .ok (.tuple [.tuple es, .list (ts ++ [.tuple (nats t)])]) (.io (row ns i' h' c') :: out) := by
  obtain ⟨i', h', c', es, ts, t, y6, y7, hi', hes, hr, hall, e⟩ := hiFor_ok (ns := ns) (h := h) (c := c) g hm hi
  refine ⟨i', h', c', es, ts, t, hi', hes, hr, hall, ?_⟩
  rw [history_eq]
  generalize hiFor = F at e ⊢
  have e0 : hi0 [.io (row ns i h c), .v (.str w), .v (.int (l : Nat)), .v (.int (m : Nat)), .un, .un, .un, .un] = .ok .nx [.io (row ns i h c), .v (.str w), .v (.int (l : Nat)), .v (.int (m : Nat)), .l [], .l [.tuple []], .un, .un] := by
    simp [hi0, sPar, axCons, axNil, TW.parSl, slOf, dTup, fnOf, sSeq, sSetX, xV, xL, dCall, aV, aIo, aNil, dVar, M.bind, Res.bind, M.ret, M.opt, reso, nodupB, ioIx, argsSl, backSl, tSetX, lLst, aBind, allV, dC, sizeLine_eq, sFor, iSeq, items, sRet, sIf, dtOr, dtNot, dtAnd, asB, dIsi, dIsi2, isB, tyN, dBin, two, oV, oN, dFx, xFn, aO, resA, fLen, fNe_int, fEq_int, fNe_bool, fEq_bool, fEq_none, fEq_nil, fLe, fGt, fGe, fCmp, dFz, fTuple, sNil, sDrop, dChain, dAnd, dNot, Sl.own, Sl.put, dGen, genB, lLc, lcB, iEnZip, TW.iEnum, gT, gLen, gsC, gsN, sAsg, tAsgG, gN_eq, tSet_eq, tSetL_eq, noIo_eq, wipeR, nio_un, nio_v, nio_l, fInt, fSub, fAdd, xBin, fIx, xSl, pAt, pNo, fSl, dIf, fIs, isNone, unwipe_eq, nio_wp, sh_int, sh_bool, sh_none, eqv_int, eqv_bool, eqv_none]
  have e2 : (sRet (dTup (aV (dFx (xFn fTuple (aO (oN 4) aNil))) (aV (dVar 5) aNil)))) [.io (row ns i' h' c'), .v (.str w), .v (.int (l : Nat)), .v (.int (m : Nat)), .l es, .l (ts ++ [.tuple (nats t)]), y6, y7] = .ok (.rt (.tuple [.tuple es, .list (ts ++ [.tuple (nats t)])])) [.io (row ns i' h' c'), .v (.str w), .v (.int (l : Nat)), .v (.int (m : Nat)), .l es, .v (.list (ts ++ [.tuple (nats t)])), y6, y7] := by
    simp [dTup, fnOf, sSeq, sSetX, xV, xL, dCall, aV, aIo, aNil, dVar, M.bind, Res.bind, M.ret, M.opt, reso, nodupB, ioIx, argsSl, backSl, tSetX, lLst, aBind, allV, dC, sizeLine_eq, sFor, iSeq, items, sRet, sIf, dtOr, dtNot, dtAnd, asB, dIsi, dIsi2, isB, tyN, dBin, two, oV, oN, dFx, xFn, aO, resA, fLen, fNe_int, fEq_int, fNe_bool, fEq_bool, fEq_none, fEq_nil, fLe, fGt, fGe, fCmp, dFz, fTuple, sNil, sDrop, dChain, dAnd, dNot, Sl.own, Sl.put, dGen, genB, lLc, lcB, iEnZip, TW.iEnum, gT, gLen, gsC, gsN, sAsg, tAsgG, gN_eq, tSet_eq, tSetL_eq, noIo_eq, wipeR, nio_un, nio_v, nio_l, fInt, fSub, fAdd, xBin, fIx, xSl, pAt, pNo, fSl, dIf, fIs, isNone, unwipe_eq, nio_wp, sh_int, sh_bool, sh_none, eqv_int, eqv_bool, eqv_none]
  exact ⟨_, fnOf_rt rfl ((sSeq_nx e0).trans ((sSeq_nx e).trans e2))⟩
end
end K02

end
section
namespace K02
open PySem PySem.Spec PyProof.Rows L2 TW

/-- data that are like themselves -/
def okA (d : PyData) : Prop := isPa 6 d ∧ SeqAt.shaped d = true ∧ sameD d d = true
theorem alike_self {d : PyData} (h : okA d) : ∃ out, D__law_alike 6 [.v d, .v d] = .ok (.bool true) out := by
  have e := alike_all 6 d d h.1 h.2.1 h.2.1
  rwa [h.2.2] at e
theorem sameDs_self : ∀ {xs : List PyData}, (∀ x ∈ xs, sameD x x = true) → sameDs xs xs = true
  | [], _ => rfl
  | x :: xs, h => by
    simp only [sameDs, h x List.mem_cons_self, sameDs_self fun y hy => h y (List.mem_cons_of_mem _ hy), Bool.and_self]
theorem okA_tup {xs : List PyData} (hl : xs.length ≤ 1000) (h : ∀ x ∈ xs, okD x ∧ sameD x x = true) : okA (.tuple xs) := by
  refine ⟨⟨hl, fun y hy => (h y hy).1.1⟩, (sh_listD fun x hx => (h x hx).1).2, ?_⟩
  show sameDs xs xs = true
  exact sameDs_self fun x hx => (h x hx).2
theorem okA_nats (t : List Nat) (hl : t.length ≤ 1000) : okA (.tuple (nats t)) := by
  have h := okD_nats t hl
  refine ⟨isPa_nats t hl, okD_sh h, ?_⟩
  show sameDs (nats t) (nats t) = true
  exact same_nats t
theorem okA_wrong (m : Nat) : okA (.list [.str "wrong", .int (m : Nat)]) := by
  have hs : PyData.canLay0 (.str "wrong") = true := by decide +kernel
  refine ⟨by simp [isPa], ?_, by simp [sameD, sameDs]⟩
  refine Bool.and_eq_true_iff.mpr ⟨?_, decide_eq_true ?_⟩
  · simp only [PyData.canLay0, PyData.canLayAll0, Bool.and_true] at hs ⊢
    exact hs
  · simp [PyData.depth, PyData.depthAll]
section
variable {w : Str} {l : Nat} {t : List Nat} {X : List Ms} {d : PyData}
theorem sd_ed (g : WX w l X) (hd : d ∈ edits w X t) : ∃ x ∈ X, sdD w d = x.d := by
  obtain ⟨x, hx, hd⟩ := mem_edits.mp hd
  refine ⟨x, hx, ?_⟩
  cases hh : hid w with
  | false =>
    obtain ⟨rfl, _⟩ := (mem_edN hh).mp hd
    cases x <;> simp [Ms.d, sdD, hh]
  | true =>
    obtain ⟨k, c, rfl, _⟩ := hid_one g hh x hx
    obtain ⟨i, rfl, _⟩ := (mem_edH hh).mp hd
    simp [ext, Ms.d, sdD, hh]
theorem isT_ed (g : WX w l X) (hd : d ∈ edits w X t) : isT d := by
  obtain ⟨x, hx, hd⟩ := mem_edits.mp hd
  cases hh : hid w with
  | false =>
    obtain ⟨rfl, _⟩ := (mem_edN hh).mp hd
    cases x <;> trivial
  | true =>
    obtain ⟨k, c, rfl, _⟩ := hid_one g hh x hx
    obtain ⟨i, rfl, _⟩ := (mem_edH hh).mp hd
    trivial
def mW : M Fl := sDrop (dCall (D_need_world) (aV (dVar 0) aNil))
theorem messages_eq : D_messages = fnOf 2 2 (sSeq wS (sSeq lS (sRet (dFx (xFn fTuple (aO (oV (dCall (D_all_messages) (aV (dVar 0) (aV (dVar 1) aNil)))) aNil)))))) := rfl
theorem messages_ok (g : WX w l X) : ∃ out, D_messages [.v (.str w), .v (.int (l : Nat))] = .ok (.tuple (X.map Ms.d)) out := by
  obtain ⟨⟨out, e⟩, _⟩ := msgs_all g.hw (lI g.hl)
  rw [g.e] at e
  have e1 := wS_ok g []
  have e2 := lS_ok g []
  have e3 : (sRet (dFx (xFn fTuple (aO (oV (dCall (D_all_messages) (aV (dVar 0) (aV (dVar 1) aNil)))) aNil)))) [.v (.str w), .v (.int (l : Nat))] = .ok (.rt (.tuple (X.map Ms.d))) [.v (.str w), .v (.int (l : Nat))] := by
    generalize D_all_messages = F at e ⊢
    simp [fnOf, sSeq, sSetX, xV, xL, dCall, aV, aIo, aNil, dVar, M.bind, Res.bind, M.ret, M.opt, reso, nodupB, ioIx, argsSl, backSl, tSetX, lLst, aBind, allV, dC, sizeLine_eq, sFor, iSeq, items, sRet, sIf, dtOr, dtNot, dtAnd, asB, dIsi, dIsi2, isB, tyN, dBin, two, oV, oN, dFx, xFn, aO, resA, fLen, fNe_int, fEq_int, fNe_bool, fEq_bool, fEq_none, fEq_nil, fLe, fGt, fGe, fCmp, dFz, fTuple, sNil, sDrop, dChain, dAnd, dNot, Sl.own, Sl.put, dGen, genB, lLc, lcB, iEnZip, TW.iEnum, gT, gLen, gsC, gsN, sAsg, tAsgG, gN_eq, tSet_eq, tSetL_eq, noIo_eq, wipeR, nio_un, nio_v, nio_l, fInt, fSub, fAdd, xBin, fIx, xSl, pAt, pNo, fSl, dIf, fIs, isNone, unwipe_eq, nio_wp, sh_int, sh_bool, sh_none, eqv_int, eqv_bool, eqv_none, e]
  rw [messages_eq]
  exact ⟨_, fnOf_rt rfl ((sSeq_nx e1).trans ((sSeq_nx e2).trans e3))⟩
theorem okA_X (g : WX w l X) : okA (.tuple (X.map Ms.d)) := okA_tup (by rw [List.length_map]; have := g.len.2; omega) fun d hd => by
  obtain ⟨x, hx, rfl⟩ := List.mem_map.mp hd
  exact ⟨okD_ms g hx, same_ms x⟩
theorem okA_sd (g : WX w l X) {es : List PyData} (hz : es.length ≤ 1000) (h : ∀ d ∈ es, ∃ t, d ∈ edits w X t) : okA (.tuple (es.map (sdD w))) := okA_tup (by rw [List.length_map]; exact hz) fun d hd => by
  obtain ⟨e, he, rfl⟩ := List.mem_map.mp hd
  obtain ⟨t, ht⟩ := h e he
  obtain ⟨x, hx, q⟩ := sd_ed g ht
  rw [q]
  exact ⟨okD_ms g hx, same_ms x⟩
end
/-! the odd edits -/
def someL (l : Int) : List PyData := [.tuple [.str "put", .int 0], .tuple [.str "put", .int 0, .int 0], .tuple [.str "front", .int 0], .tuple [.str "chop", .int 0], .tuple [.str "behead", .int 0], .tuple [.str "take", .int 0, .int 0], .tuple [.str "turn"],
  .tuple [.str "put", .int l], .tuple [.str "put", .bool true], .tuple [.str "put", .int 0, .int 99], .tuple [.str "take", .int 0, .int 99], .none, .tuple [], .list [.str "put", .int 0],
  .tuple [.str "turn", .list [.int 0]], .str "put", .tuple [.str "turn", .tuple [.int 0]],
  .tuple [.str "turn", .tuple [.int 1, .int 0]], .tuple [.str "turn", .tuple [.int 0, .int 0]], .tuple [.str "Put", .int 0], .tuple [.str "put", .int (-1)], .tuple [.str "put", .int 0, .bool true], .tuple [.str "put"]]
theorem some_sh : ∀ l ∈ [(1 : Int), 2, 3], (someL l).all SeqAt.shaped = true := by decide +kernel
theorem some_shaped {l : Nat} (hl : l ∈ [1, 2, 3]) : ∀ d ∈ someL (l : Nat), SeqAt.shaped d = true := List.all_eq_true.mp (some_sh (l : Nat) (lI hl))
theorem cutG_take (ds : List PyData) (n : Nat) : TW.cutD ds none (some (n : Nat)) = ds.take n := by
  unfold TW.cutD
  rw [HT.sIx_none, HT.sIx_nat, List.drop_zero, Nat.sub_zero]
  by_cases h : n ≤ ds.length
  · rw [Nat.min_eq_left h]
  · rw [Nat.min_eq_right (by omega), List.take_of_length_le (Nat.le_refl _), List.take_of_length_le (by omega)]
theorem cutG_drop (ds : List PyData) (n : Nat) : TW.cutD ds (some (n : Nat)) none = ds.drop n := by
  unfold TW.cutD
  rw [HT.sIx_none, HT.sIx_nat, List.take_of_length_le (by simp)]
  by_cases h : n ≤ ds.length
  · rw [Nat.min_eq_left h]
  · rw [Nat.min_eq_right (by omega), List.drop_of_length_le (by simp), List.drop_of_length_le (by omega)]
/-- pick from a list that may be given away -/
theorem call_pick2 {r r1 : List Sl} {k : Nat} {ns : List Int} {i h c : Int} {de : M PyData} {ds : List PyData} (h0 : r[k]? = some (.l (row ns i h c))) (h1 : r1[k]? = some (.l (row ns i h c))) (hd : de r = .ok (.list ds) r1) (hl : 1 ≤ ds.length) (hl2 : ds.length < 1073741824) (hi : 0 ≤ i) :
    ∃ (j : Nat) (d : PyData) (i' h' c' : Int), ds[j]? = some d ∧ 0 ≤ i' ∧ dCall D__law_pick (aIo k (aV de aNil)) r = .ok d (r1.set k (.l (row ns i' h' c'))) := by
  obtain ⟨j, d, i', h', c', out, hj, hi', e⟩ := pick (ns := ns) (h := h) (c := c) hl hl2 hi
  refine ⟨j, d, i', h', c', hj, hi', ?_⟩
  simp [dCall, aIo, aV, aNil, M.bind, Res.bind, M.ret, h0, h1, Sl.own, hd, nodupB, ioIx, argsSl, e, backSl, Sl.put]
theorem told_lem {d : M PyData} {r r1 : List Sl} {v : PyData} (h : d r = .ex ⟨"BadEdits", [("index", v)]⟩ r1) : dTold "BadEdits" "index" "wrong" d r = .ok (.list [.str "wrong", v]) r1 := by
  unfold dTold
  rw [h]
  show (if ("BadEdits" : Str) = "BadEdits" then _ else _) = _
  rw [if_pos rfl]
  have e : [(("index" : Str), v)].lookup ("index" : Str) = some v := by
    simp [List.lookup]
  simp only [e]
theorem told_ok {d : M PyData} {r r1 : List Sl} {v : PyData} (h : d r = .ok v r1) : dTold "BadEdits" "index" "wrong" d r = .ok v r1 := by
  unfold dTold
  rw [h]
end K02

end
section
namespace K02
open PySem PySem.Spec PyProof.Rows L2 TW

def lbTk : M PyData := dCall (D__law_taken) (aIo 1 (aV (dFx (xBin fAdd (oV (dFx (xFn fLen (aO (oN 4) aNil)))) (oV (dC (.int 1))))) aNil))
def lbPk : M PyData := dCall (D__law_pick) (aIo 1 (aV (dVar 6) aNil))
def lb1 : M Fl := sPar [8, 9] (axCons (xV lbTk) (axCons (xV lbPk) axNil))
def lbBent : M Rz := xBin fAdd (oV (dFx (xBin fAdd (oV (dFx (xSl (oN 4) pNo (pAt (dVar 8))))) (oV (dTup (aV (dVar 9) aNil)))))) (oV (dFx (xSl (oN 4) (pAt (dVar 8)) pNo)))
def lb2 : M Fl := sPar [10, 11, 12] (axCons lbBent (axCons (xV (dTup aNil)) (axCons (xV (dC .none)) axNil)))
def lb4 : M Fl := sSetX 15 (xIf ((dBin fIs (oN 12) (oV (dC .none))).bind asB) (xV (dVar 11)) (xL (lLst (aV (dC (.str "wrong")) (aV (dVar 12) aNil)))))
def lbTold : M PyData := dTold "BadEdits" "index" "wrong" (dCall (D_text_after) (aV (dVar 2) (aV (dVar 3) (aV (dVar 10) aNil))))
def lb5t : M Bool := dtNot ((dCall (D__law_alike 6) (aV lbTold (aV (dVar 15) aNil))).bind asB)
def lb5 : M Fl := sIf lb5t (sRet (dC (.bool false))) sNil
def lbB : M Fl := sSeq lb1 (sSeq lb2 (sSeq liFor (sSeq lb4 lb5)))
def lwFor : M Fl := sFor (aBind (aV (dC (.int 6)) aNil) iRange1) (gN 7) lbB
def lw1 : M Fl := sSetX 1 (xL (lLst (aV (dVar 0) (aV (dC (.int 0)) (aV (dC (.int 1002)) (aV (dC (.int 0)) aNil))))))
def lw2 : M Fl := sPar [2, 3] (axCons (xV (dCall (D__law_world) (aIo 1 aNil))) (axCons (xBin fAdd (oV (dC (.int 1))) (oV (dCall (D__law_taken) (aIo 1 (aV (dC (.int 3)) aNil))))) axNil))
def lw3t : M Bool := dtNot ((dCall (D__law_alike 6) (aV (dCall (D_messages) (aV (dVar 2) (aV (dVar 3) aNil))) (aV (dFx (xFn fTuple (aO (oV (dCall (D__law_messages) (aV (dVar 2) (aV (dVar 3) aNil)))) aNil))) aNil))).bind asB)
def lw3 : M Fl := sIf lw3t (sRet (dC (.bool false))) sNil
def lwTk : M PyData := dCall (D__law_taken) (aIo 1 (aV (dC (.int 20)) aNil))
def lw4 : M Fl := sAsg (dCall (D__law_history) (aIo 1 (aV (dVar 2) (aV (dVar 3) (aV lwTk aNil))))) (gT (gLen 2 (gsC (gN 4) (gsC (gN 5) gsN))))
def lw5t : M Bool := dtNot ((dCall (D__law_alike 6) (aV (dCall (D_text_after) (aV (dVar 2) (aV (dVar 3) (aV (dVar 4) aNil)))) (aV (dBin fIx (oN 5) (oV (dNeg (dC (.int 1))))) aNil))).bind asB)
def lw5 : M Fl := sIf lw5t (sRet (dC (.bool false))) sNil
def lw6t : M Bool := dtNot ((dCall (D__law_alike 6) (aV (dCall (D_told) (aV (dVar 2) (aV (dVar 3) (aV (dVar 4) aNil)))) (aV (dFx (xFn fTuple (aO (oV (dCall (D__law_said) (aV (dVar 2) (aV (dVar 4) aNil)))) aNil))) aNil))).bind asB)
def lw6 : M Fl := sIf lw6t (sRet (dC (.bool false))) sNil
def lw7 : M Fl := (sSetX 6 (xL (lLst (aV (dTup (aV (dC (.str "put")) (aV (dC (.int 0)) aNil))) (aV (dTup (aV (dC (.str "put")) (aV (dC (.int 0)) (aV (dC (.int 0)) aNil)))) (aV (dTup (aV (dC (.str "front")) (aV (dC (.int 0)) aNil))) (aV (dTup (aV (dC (.str "chop")) (aV (dC (.int 0)) aNil))) (aV (dTup (aV (dC (.str "behead")) (aV (dC (.int 0)) aNil))) (aV (dTup (aV (dC (.str "take")) (aV (dC (.int 0)) (aV (dC (.int 0)) aNil)))) (aV (dTup (aV (dC (.str "turn")) aNil)) aNil))))))))))
def lw8 : M Fl := (sSetX 6 (xBin fAdd (oN 6) (oV (dFz (lLst (aV (dTup (aV (dC (.str "put")) (aV (dVar 3) aNil))) (aV (dTup (aV (dC (.str "put")) (aV (dC (.bool true)) aNil))) (aV (dTup (aV (dC (.str "put")) (aV (dC (.int 0)) (aV (dC (.int 99)) aNil)))) (aV (dTup (aV (dC (.str "take")) (aV (dC (.int 0)) (aV (dC (.int 99)) aNil)))) (aV (dC .none) (aV (dTup aNil) (aV (dFz (lLst (aV (dC (.str "put")) (aV (dC (.int 0)) aNil)))) aNil))))))))))))
def lw9 : M Fl := (sSetX 6 (xBin fAdd (oN 6) (oV (dFz (lLst (aV (dTup (aV (dC (.str "turn")) (aV (dFz (lLst (aV (dC (.int 0)) aNil))) aNil))) (aV (dC (.str "put")) (aV (dTup (aV (dC (.str "turn")) (aV (dTup (aV (dC (.int 0)) aNil)) aNil))) aNil))))))))
def lw10 : M Fl := (sSetX 6 (xBin fAdd (oN 6) (oV (dFz (lLst (aV (dTup (aV (dC (.str "turn")) (aV (dTup (aV (dC (.int 1)) (aV (dC (.int 0)) aNil))) aNil))) (aV (dTup (aV (dC (.str "turn")) (aV (dTup (aV (dC (.int 0)) (aV (dC (.int 0)) aNil))) aNil))) (aV (dTup (aV (dC (.str "Put")) (aV (dC (.int 0)) aNil))) (aV (dTup (aV (dC (.str "put")) (aV (dBin fSub (oV (dC (.int 0))) (oV (dC (.int 1)))) aNil))) (aV (dTup (aV (dC (.str "put")) (aV (dC (.int 0)) (aV (dC (.bool true)) aNil)))) (aV (dTup (aV (dC (.str "put")) aNil)) aNil)))))))))))
theorem law_eq : D_law = fnOf 1 18 (sSeq lw1 (sSeq lw2 (sSeq lw3 (sSeq lw4 (sSeq lw5 (sSeq lw6 (sSeq lw7 (sSeq lw8 (sSeq lw9 (sSeq lw10 (sSeq lwFor (sRet (dC (.bool true)))))))))))))) := rfl
section
variable {w : Str} {l n m : Nat} {t : List Nat} {X : List Ms} {d : PyData} {ns : List Int} {i h c : Int} {es : List PyData} {a3 a4 a5 a6 a7 a8 a9 a10 a11 a12 a13 a14 a15 a16 a17 : Sl}
/-- the list of odd edits, held or given away -/
def isS (l : Int) (a : Sl) : Prop := a = .l (someL l) ∨ a = .v (.list (someL l))
theorem lbTk_ok (hz : es.length ≤ 1000) (hi : 0 ≤ i) : ∃ (k : Nat) (i' h' c' : Int), k ≤ es.length ∧ 0 ≤ i' ∧ lbTk [.v (scr ns), .l (row ns i h c), .v (.str w), .v (.int (l : Nat)), .v (.tuple es), a5, a6, a7, a8, a9, a10, a11, a12, a13, a14, a15, a16, a17] = .ok (.int (k : Nat)) [.v (scr ns), (.l (row ns i' h' c')), .v (.str w), .v (.int (l : Nat)), .v (.tuple es), a5, a6, a7, a8, a9, a10, a11, a12, a13, a14, a15, a16, a17] := by
  have hd : (dFx (xBin fAdd (oV (dFx (xFn fLen (aO (oN 4) aNil)))) (oV (dC (.int 1))))) [.v (scr ns), .l (row ns i h c), .v (.str w), .v (.int (l : Nat)), .v (.tuple es), a5, a6, a7, a8, a9, a10, a11, a12, a13, a14, a15, a16, a17] = .ok (.int ((es.length : Int) + 1)) [.v (scr ns), .l (row ns i h c), .v (.str w), .v (.int (l : Nat)), .v (.tuple es), a5, a6, a7, a8, a9, a10, a11, a12, a13, a14, a15, a16, a17] := by simp [fnOf, sSeq, sSetX, xV, xL, dCall, aV, aIo, aNil, dVar, M.bind, Res.bind, M.ret, M.opt, reso, nodupB, ioIx, argsSl, backSl, tSetX, lLst, aBind, allV, dC, sizeLine_eq, sFor, iSeq, items, sRet, sIf, dtOr, dtNot, dtAnd, asB, dIsi, dIsi2, isB, tyN, dBin, two, oV, oN, dFx, xFn, aO, resA, fLen, fNe_int, fEq_int, fNe_bool, fEq_bool, fEq_none, fEq_nil, fLe, fGt, fGe, fCmp, dFz, fTuple, sNil, sDrop, dChain, dAnd, dNot, Sl.own, Sl.put, dGen, genB, lLc, lcB, iEnZip, TW.iEnum, gT, gLen, gsC, gsN, sAsg, tAsgG, gN_eq, tSet_eq, tSetL_eq, noIo_eq, wipeR, nio_un, nio_v, nio_l, fInt, fSub, fAdd, xBin, fIx, xSl, pAt, pNo, fSl, dIf, fIs, isNone, unwipe_eq, nio_wp, sh_int, sh_bool, sh_none, eqv_int, eqv_bool, eqv_none]
  obtain ⟨t, i', h', c', t0, t1, hi', e⟩ := call_taken (k := 1) rfl hd (by omega) (by omega) hi
  refine ⟨t.toNat, i', h', c', by omega, hi', ?_⟩
  unfold lbTk
  rw [e, Int.toNat_of_nonneg t0]
  rfl
theorem lbPk_ok (hs : isS (l : Nat) a6) (hi : 0 ≤ i) : ∃ (d : PyData) (i' h' c' : Int), d ∈ someL (l : Nat) ∧ 0 ≤ i' ∧ lbPk [.v (scr ns), .l (row ns i h c), .v (.str w), .v (.int (l : Nat)), .v (.tuple es), a5, a6, a7, a8, a9, a10, a11, a12, a13, a14, a15, a16, a17] = .ok d [.v (scr ns), (.l (row ns i' h' c')), .v (.str w), .v (.int (l : Nat)), .v (.tuple es), a5, (.v (.list (someL (l : Nat)))), a7, a8, a9, a10, a11, a12, a13, a14, a15, a16, a17] := by
  have hd : (dVar 6) [.v (scr ns), .l (row ns i h c), .v (.str w), .v (.int (l : Nat)), .v (.tuple es), a5, a6, a7, a8, a9, a10, a11, a12, a13, a14, a15, a16, a17] = .ok (.list (someL (l : Nat))) [.v (scr ns), .l (row ns i h c), .v (.str w), .v (.int (l : Nat)), .v (.tuple es), a5, (.v (.list (someL (l : Nat)))), a7, a8, a9, a10, a11, a12, a13, a14, a15, a16, a17] := by
    rcases hs with rfl | rfl <;> simp [dVar]
  obtain ⟨j, d, i', h', c', hj, hi', e⟩ := call_pick2 (k := 1) (ns := ns) (i := i) (h := h) (c := c) rfl rfl hd (by simp [someL]) (by simp [someL]) hi
  refine ⟨d, i', h', c', List.mem_of_getElem? hj, hi', ?_⟩
  unfold lbPk
  rw [e]
  rfl
theorem lb1_ok (hz : es.length ≤ 1000) (hs : isS (l : Nat) a6) (hi : 0 ≤ i) (h8 : nio a8 = true) (h9 : nio a9 = true) : ∃ (k : Nat) (d : PyData) (i' h' c' : Int), k ≤ es.length ∧ d ∈ someL (l : Nat) ∧ 0 ≤ i' ∧ lb1 [.v (scr ns), .l (row ns i h c), .v (.str w), .v (.int (l : Nat)), .v (.tuple es), a5, a6, a7, a8, a9, a10, a11, a12, a13, a14, a15, a16, a17] = .ok .nx [.v (scr ns), (.l (row ns i' h' c')), .v (.str w), .v (.int (l : Nat)), .v (.tuple es), a5, (.v (.list (someL (l : Nat)))), a7, .v (.int (k : Nat)), .v d, a10, a11, a12, a13, a14, a15, a16, a17] := by
  obtain ⟨k, i1, h1, c1, hk, hi1, e1⟩ := lbTk_ok (w := w) (l := l) (ns := ns) (h := h) (c := c) (a5 := a5) (a6 := a6) (a7 := a7) (a8 := a8) (a9 := a9) (a10 := a10) (a11 := a11) (a12 := a12) (a13 := a13) (a14 := a14) (a15 := a15) (a16 := a16) (a17 := a17) hz hi
  obtain ⟨d, i2, h2, c2, hd, hi2, e2⟩ := lbPk_ok (w := w) (es := es) (l := l) (ns := ns) (h := h1) (c := c1) (a5 := a5) (a6 := a6) (a7 := a7) (a8 := a8) (a9 := a9) (a10 := a10) (a11 := a11) (a12 := a12) (a13 := a13) (a14 := a14) (a15 := a15) (a16 := a16) (a17 := a17) hs hi1
  refine ⟨k, d, i2, h2, c2, hk, hd, hi2, ?_⟩
  unfold lb1
  generalize lbTk = T1 at e1 ⊢
  generalize lbPk = T2 at e2 ⊢
  cases a8 <;> cases a9 <;> first | (simp [nio] at h8; done) | (simp [nio] at h9; done) | simp [sPar, axCons, axNil, TW.parSl, slOf, fnOf, sSeq, sSetX, xV, xL, dCall, aV, aIo, aNil, dVar, M.bind, Res.bind, M.ret, M.opt, reso, nodupB, ioIx, argsSl, backSl, tSetX, lLst, aBind, allV, dC, sizeLine_eq, sFor, iSeq, items, sRet, sIf, dtOr, dtNot, dtAnd, asB, dIsi, dIsi2, isB, tyN, dBin, two, oV, oN, dFx, xFn, aO, resA, fLen, fNe_int, fEq_int, fNe_bool, fEq_bool, fEq_none, fEq_nil, fLe, fGt, fGe, fCmp, dFz, fTuple, sNil, sDrop, dChain, dAnd, dNot, Sl.own, Sl.put, dGen, genB, lLc, lcB, iEnZip, TW.iEnum, gT, gLen, gsC, gsN, sAsg, tAsgG, gN_eq, tSet_eq, tSetL_eq, noIo_eq, wipeR, nio_un, nio_v, nio_l, fInt, fSub, fAdd, xBin, fIx, xSl, pAt, pNo, fSl, dIf, fIs, isNone, unwipe_eq, nio_wp, sh_int, sh_bool, sh_none, eqv_int, eqv_bool, eqv_none, e1, e2]
theorem lb2_ok (hz : es.length ≤ 1000) (h10 : nio a10 = true) (h11 : nio a11 = true) (h12 : nio a12 = true) : lb2 [.v (scr ns), .l (row ns i h c), .v (.str w), .v (.int (l : Nat)), .v (.tuple es), a5, a6, a7, .v (.int (n : Nat)), .v d, a10, a11, a12, a13, a14, a15, a16, a17] = .ok .nx [.v (scr ns), .l (row ns i h c), .v (.str w), .v (.int (l : Nat)), .v (.tuple es), a5, a6, a7, .v (.int (n : Nat)), .v d, .v (.tuple (es.take n ++ [d] ++ es.drop n)), .v (.tuple []), .v .none, a13, a14, a15, a16, a17] := by
  have e1 := cutG_take es n
  have e2 := cutG_drop es n
  have e3 : lbBent [.v (scr ns), .l (row ns i h c), .v (.str w), .v (.int (l : Nat)), .v (.tuple es), a5, a6, a7, .v (.int (n : Nat)), .v d, a10, a11, a12, a13, a14, a15, a16, a17] = .ok (.v (.tuple (es.take n ++ [d] ++ es.drop n))) [.v (scr ns), .l (row ns i h c), .v (.str w), .v (.int (l : Nat)), .v (.tuple es), a5, a6, a7, .v (.int (n : Nat)), .v d, a10, a11, a12, a13, a14, a15, a16, a17] := by
    have z1 : (es.take n).length + 1 ≤ 16777216 := by rw [List.length_take]; omega
    have z2 : (es.take n ++ [d]).length + (es.drop n).length ≤ 16777216 := by rw [List.length_append, List.length_take, List.length_drop]; simp; omega
    generalize es.take n = A at *
    generalize es.drop n = B at *
    have z2 : A.length + 1 + B.length ≤ 16777216 := by simpa using z2
    simp [lbBent, dTup, fnOf, sSeq, sSetX, xV, xL, dCall, aV, aIo, aNil, dVar, M.bind, Res.bind, M.ret, M.opt, reso, nodupB, ioIx, argsSl, backSl, tSetX, lLst, aBind, allV, dC, sizeLine_eq, sFor, iSeq, items, sRet, sIf, dtOr, dtNot, dtAnd, asB, dIsi, dIsi2, isB, tyN, dBin, two, oV, oN, dFx, xFn, aO, resA, fLen, fNe_int, fEq_int, fNe_bool, fEq_bool, fEq_none, fEq_nil, fLe, fGt, fGe, fCmp, dFz, fTuple, sNil, sDrop, dChain, dAnd, dNot, Sl.own, Sl.put, dGen, genB, lLc, lcB, iEnZip, TW.iEnum, gT, gLen, gsC, gsN, sAsg, tAsgG, gN_eq, tSet_eq, tSetL_eq, noIo_eq, wipeR, nio_un, nio_v, nio_l, fInt, fSub, fAdd, xBin, fIx, xSl, pAt, pNo, fSl, dIf, fIs, isNone, unwipe_eq, nio_wp, sh_int, sh_bool, sh_none, eqv_int, eqv_bool, eqv_none, e1, e2, z1, z2]
  unfold lb2
  generalize lbBent = L at e3 ⊢
  cases a10 <;> cases a11 <;> cases a12 <;> first | (simp [nio] at h10; done) | (simp [nio] at h11; done) | (simp [nio] at h12; done) | simp [sPar, axCons, axNil, TW.parSl, slOf, dTup, fnOf, sSeq, sSetX, xV, xL, dCall, aV, aIo, aNil, dVar, M.bind, Res.bind, M.ret, M.opt, reso, nodupB, ioIx, argsSl, backSl, tSetX, lLst, aBind, allV, dC, sizeLine_eq, sFor, iSeq, items, sRet, sIf, dtOr, dtNot, dtAnd, asB, dIsi, dIsi2, isB, tyN, dBin, two, oV, oN, dFx, xFn, aO, resA, fLen, fNe_int, fEq_int, fNe_bool, fEq_bool, fEq_none, fEq_nil, fLe, fGt, fGe, fCmp, dFz, fTuple, sNil, sDrop, dChain, dAnd, dNot, Sl.own, Sl.put, dGen, genB, lLc, lcB, iEnZip, TW.iEnum, gT, gLen, gsC, gsN, sAsg, tAsgG, gN_eq, tSet_eq, tSetL_eq, noIo_eq, wipeR, nio_un, nio_v, nio_l, fInt, fSub, fAdd, xBin, fIx, xSl, pAt, pNo, fSl, dIf, fIs, isNone, unwipe_eq, nio_wp, sh_int, sh_bool, sh_none, eqv_int, eqv_bool, eqv_none, e3]
/-- what the law expects -/
def dueS (t : List Nat) : Option Nat → Sl
  | none => .v (.tuple (nats t))
  | some m => .l [.str "wrong", .int (m : Nat)]
def dueD (t : List Nat) : Option Nat → PyData
  | none => .tuple (nats t)
  | some m => .list [.str "wrong", .int (m : Nat)]
theorem lb4_ok {o : Option Nat} (h15 : nio a15 = true) : lb4 [.v (scr ns), .l (row ns i h c), .v (.str w), .v (.int (l : Nat)), .v (.tuple es), a5, a6, a7, a8, a9, a10, .v (.tuple (nats t)), .v (wrD o), a13, a14, a15, a16, a17] = .ok .nx [.v (scr ns), .l (row ns i h c), .v (.str w), .v (.int (l : Nat)), .v (.tuple es), a5, a6, a7, a8, a9, a10, .v (.tuple (nats t)), .v (wrD o), a13, a14, dueS t o, a16, a17] := by
  cases o <;> simp [lb4, xIf, wrD, dueS, fnOf, sSeq, sSetX, xV, xL, dCall, aV, aIo, aNil, dVar, M.bind, Res.bind, M.ret, M.opt, reso, nodupB, ioIx, argsSl, backSl, tSetX, lLst, aBind, allV, dC, sizeLine_eq, sFor, iSeq, items, sRet, sIf, dtOr, dtNot, dtAnd, asB, dIsi, dIsi2, isB, tyN, dBin, two, oV, oN, dFx, xFn, aO, resA, fLen, fNe_int, fEq_int, fNe_bool, fEq_bool, fEq_none, fEq_nil, fLe, fGt, fGe, fCmp, dFz, fTuple, sNil, sDrop, dChain, dAnd, dNot, Sl.own, Sl.put, dGen, genB, lLc, lcB, iEnZip, TW.iEnum, gT, gLen, gsC, gsN, sAsg, tAsgG, gN_eq, tSet_eq, tSetL_eq, noIo_eq, wipeR, nio_un, nio_v, nio_l, fInt, fSub, fAdd, xBin, fIx, xSl, pAt, pNo, fSl, dIf, fIs, isNone, unwipe_eq, nio_wp, sh_int, sh_bool, sh_none, eqv_int, eqv_bool, eqv_none, h15]
theorem lb5_ok (g : WX w l X) {all : List PyData} {o : Option Nat} (hr : Run w l X all 0 [] t o) (hz : all.length ≤ 59) (hs : ∀ d ∈ all, SeqAt.shaped d = true) : lb5 [.v (scr ns), .l (row ns i h c), .v (.str w), .v (.int (l : Nat)), .v (.tuple es), a5, a6, a7, a8, a9, .v (.tuple all), a11, a12, a13, a14, dueS t o, a16, a17] = .ok .nx [.v (scr ns), .l (row ns i h c), .v (.str w), .v (.int (l : Nat)), .v (.tuple es), a5, a6, a7, a8, a9, .v (.tuple all), a11, a12, a13, a14, .v (dueD t o), a16, a17] := by
  obtain ⟨out, e⟩ := text_after g hr hz hs
  have e1 : lbTold [.v (scr ns), .l (row ns i h c), .v (.str w), .v (.int (l : Nat)), .v (.tuple es), a5, a6, a7, a8, a9, .v (.tuple all), a11, a12, a13, a14, dueS t o, a16, a17] = .ok (dueD t o) [.v (scr ns), .l (row ns i h c), .v (.str w), .v (.int (l : Nat)), .v (.tuple es), a5, a6, a7, a8, a9, .v (.tuple all), a11, a12, a13, a14, dueS t o, a16, a17] := by
    unfold lbTold
    cases o with
    | none =>
      refine told_ok ?_
      simp only at e
      generalize D_text_after = F at e ⊢
      simp [fnOf, sSeq, sSetX, xV, xL, dCall, aV, aIo, aNil, dVar, M.bind, Res.bind, M.ret, M.opt, reso, nodupB, ioIx, argsSl, backSl, tSetX, lLst, aBind, allV, dC, sizeLine_eq, sFor, iSeq, items, sRet, sIf, dtOr, dtNot, dtAnd, asB, dIsi, dIsi2, isB, tyN, dBin, two, oV, oN, dFx, xFn, aO, resA, fLen, fNe_int, fEq_int, fNe_bool, fEq_bool, fEq_none, fEq_nil, fLe, fGt, fGe, fCmp, dFz, fTuple, sNil, sDrop, dChain, dAnd, dNot, Sl.own, Sl.put, dGen, genB, lLc, lcB, iEnZip, TW.iEnum, gT, gLen, gsC, gsN, sAsg, tAsgG, gN_eq, tSet_eq, tSetL_eq, noIo_eq, wipeR, nio_un, nio_v, nio_l, fInt, fSub, fAdd, xBin, fIx, xSl, pAt, pNo, fSl, dIf, fIs, isNone, unwipe_eq, nio_wp, sh_int, sh_bool, sh_none, eqv_int, eqv_bool, eqv_none, e, dueD]
    | some m =>
      refine told_lem ?_
      simp only at e
      generalize D_text_after = F at e ⊢
      simp [fnOf, sSeq, sSetX, xV, xL, dCall, aV, aIo, aNil, dVar, M.bind, Res.bind, M.ret, M.opt, reso, nodupB, ioIx, argsSl, backSl, tSetX, lLst, aBind, allV, dC, sizeLine_eq, sFor, iSeq, items, sRet, sIf, dtOr, dtNot, dtAnd, asB, dIsi, dIsi2, isB, tyN, dBin, two, oV, oN, dFx, xFn, aO, resA, fLen, fNe_int, fEq_int, fNe_bool, fEq_bool, fEq_none, fEq_nil, fLe, fGt, fGe, fCmp, dFz, fTuple, sNil, sDrop, dChain, dAnd, dNot, Sl.own, Sl.put, dGen, genB, lLc, lcB, iEnZip, TW.iEnum, gT, gLen, gsC, gsN, sAsg, tAsgG, gN_eq, tSet_eq, tSetL_eq, noIo_eq, wipeR, nio_un, nio_v, nio_l, fInt, fSub, fAdd, xBin, fIx, xSl, pAt, pNo, fSl, dIf, fIs, isNone, unwipe_eq, nio_wp, sh_int, sh_bool, sh_none, eqv_int, eqv_bool, eqv_none, e]
  have ok : okA (dueD t o) := by
    have := run_len hr
    cases o with
    | none => exact okA_nats t (by simp at this; omega)
    | some m => exact okA_wrong m
  obtain ⟨out2, e2⟩ := alike_self ok
  have e3 : (dVar 15) [.v (scr ns), .l (row ns i h c), .v (.str w), .v (.int (l : Nat)), .v (.tuple es), a5, a6, a7, a8, a9, .v (.tuple all), a11, a12, a13, a14, dueS t o, a16, a17] = .ok (dueD t o) [.v (scr ns), .l (row ns i h c), .v (.str w), .v (.int (l : Nat)), .v (.tuple es), a5, a6, a7, a8, a9, .v (.tuple all), a11, a12, a13, a14, .v (dueD t o), a16, a17] := by
    cases o <;> simp [dVar, dueS, dueD]
  have e4 : lb5t [.v (scr ns), .l (row ns i h c), .v (.str w), .v (.int (l : Nat)), .v (.tuple es), a5, a6, a7, a8, a9, .v (.tuple all), a11, a12, a13, a14, dueS t o, a16, a17] = .ok false [.v (scr ns), .l (row ns i h c), .v (.str w), .v (.int (l : Nat)), .v (.tuple es), a5, a6, a7, a8, a9, .v (.tuple all), a11, a12, a13, a14, .v (dueD t o), a16, a17] := by
    unfold lb5t
    generalize D__law_alike 6 = F at e2 ⊢
    generalize lbTold = L at e1 ⊢
    generalize dVar 15 = V at e3 ⊢
    generalize dueD t o = D at *
    simp [fnOf, sSeq, sSetX, xV, xL, dCall, aV, aIo, aNil, dVar, M.bind, Res.bind, M.ret, M.opt, reso, nodupB, ioIx, argsSl, backSl, tSetX, lLst, aBind, allV, dC, sizeLine_eq, sFor, iSeq, items, sRet, sIf, dtOr, dtNot, dtAnd, asB, dIsi, dIsi2, isB, tyN, dBin, two, oV, oN, dFx, xFn, aO, resA, fLen, fNe_int, fEq_int, fNe_bool, fEq_bool, fEq_none, fEq_nil, fLe, fGt, fGe, fCmp, dFz, fTuple, sNil, sDrop, dChain, dAnd, dNot, Sl.own, Sl.put, dGen, genB, lLc, lcB, iEnZip, TW.iEnum, gT, gLen, gsC, gsN, sAsg, tAsgG, gN_eq, tSet_eq, tSetL_eq, noIo_eq, wipeR, nio_un, nio_v, nio_l, fInt, fSub, fAdd, xBin, fIx, xSl, pAt, pNo, fSl, dIf, fIs, isNone, unwipe_eq, nio_wp, sh_int, sh_bool, sh_none, eqv_int, eqv_bool, eqv_none, e1, e3, e2]
  exact sIf_no e4
end
end K02

end
section
namespace K02
open PySem PySem.Spec PyProof.Rows L2 TW

section
variable {w : Str} {l n m : Nat} {t : List Nat} {X : List Ms} {d : PyData} {ns : List Int} {i h c : Int} {es ts : List PyData} {a2 a3 a4 a5 a6 a7 a8 a9 a10 a11 a12 a13 a14 a15 a16 a17 : Sl}
def lwP (ns : List Int) (w : Str) (l : Nat) (es : List PyData) (a5 : Sl) (r : List Sl) : Prop := ∃ (i h c : Int) (a6 a7 a8 a9 a10 a11 a12 a13 a14 a15 a16 a17 : Sl), 0 ≤ i ∧ isS (l : Nat) a6 ∧ nio a7 = true ∧ nio a8 = true ∧ nio a9 = true ∧ nio a10 = true ∧ nio a11 = true ∧ nio a12 = true ∧ nio a13 = true ∧ nio a14 = true ∧ nio a15 = true ∧ nio a16 = true ∧ nio a17 = true ∧ r = [.v (scr ns), .l (row ns i h c), .v (.str w), .v (.int (l : Nat)), .v (.tuple es), a5, a6, a7, a8, a9, a10, a11, a12, a13, a14, a15, a16, a17]
theorem lw_step (g : WX w l X) (hz : es.length ≤ 50) (hs : ∀ d ∈ es, SeqAt.shaped d = true) {r : List Sl} {q : PyData} (hr : lwP ns w l es a5 r) : ∃ r1 r2, gN 7 q r = some r1 ∧ (lbB r1 = .ok .nx r2 ∨ lbB r1 = .ok .ct r2) ∧ lwP ns w l es a5 r2 := by
  obtain ⟨i, h, c, a6, a7, a8, a9, a10, a11, a12, a13, a14, a15, a16, a17, hi, h6, h7, h8, h9, h10, h11, h12, h13, h14, h15, h16, h17, rfl⟩ := hr
  obtain ⟨k, d, i', h', c', hk, hd, hi', e1⟩ := lb1_ok (w := w) (ns := ns) (h := h) (c := c) (a5 := a5) (a6 := a6) (a7 := .v q) (a8 := a8) (a9 := a9) (a10 := a10) (a11 := a11) (a12 := a12) (a13 := a13) (a14 := a14) (a15 := a15) (a16 := a16) (a17 := a17) (es := es) (by omega) h6 hi h8 h9
  have e2 := lb2_ok (w := w) (l := l) (ns := ns) (i := i') (h := h') (c := c') (a5 := a5) (a6 := .v (.list (someL (l : Nat)))) (a7 := .v q) (n := k) (d := d) (a10 := a10) (a11 := a11) (a12 := a12) (a13 := a13) (a14 := a14) (a15 := a15) (a16 := a16) (a17 := a17) (es := es) (by omega) h10 h11 h12
  have hall : (es.take k ++ [d] ++ es.drop k).length ≤ 59 := by
    rw [List.length_append, List.length_append, List.length_take, List.length_drop]
    simp
    omega
  have hsh : ∀ x ∈ es.take k ++ [d] ++ es.drop k, SeqAt.shaped x = true := fun x hx => by
    simp only [List.mem_append, List.mem_singleton] at hx
    rcases hx with (hx | rfl) | hx
    · exact hs x (List.mem_of_mem_take hx)
    · exact some_shaped g.hl x hd
    · exact hs x (List.mem_of_mem_drop hx)
  generalize es.take k ++ [d] ++ es.drop k = all at e2 hall hsh
  obtain ⟨t, o, hr⟩ := run_ex g all 0 [] (by simp; omega) (by simp)
  obtain ⟨z13, z14, z16, z17, k13, k14, k16, k17, e3⟩ := liFor_ok (a0 := .v (scr ns)) (a1 := .l (row ns i' h' c')) (a4 := .v (.tuple es)) (a5 := a5) (a6 := .v (.list (someL (l : Nat)))) (a7 := .v q) (a8 := .v (.int (k : Nat))) (a9 := .v d) (a15 := a15) (y13 := a13) (y14 := a14) (y16 := a16) (y17 := a17) g hr hall hsh h13 h14 h16 h17
  have e4 := lb4_ok (w := w) (l := l) (ns := ns) (i := i') (h := h') (c := c') (es := es) (t := t) (o := o) (a5 := a5) (a6 := .v (.list (someL (l : Nat)))) (a7 := .v q) (a8 := .v (.int (k : Nat))) (a9 := .v d) (a10 := .v (.tuple all)) (a13 := z13) (a14 := z14) (a15 := a15) (a16 := z16) (a17 := z17) h15
  have e5 := lb5_ok (ns := ns) (i := i') (h := h') (c := c') (es := es) (a5 := a5) (a6 := .v (.list (someL (l : Nat)))) (a7 := .v q) (a8 := .v (.int (k : Nat))) (a9 := .v d) (a11 := .v (.tuple (nats t))) (a12 := .v (wrD o)) (a13 := z13) (a14 := z14) (a16 := z16) (a17 := z17) g hr hall hsh
  have eg : gN 7 q [.v (scr ns), .l (row ns i h c), .v (.str w), .v (.int (l : Nat)), .v (.tuple es), a5, a6, a7, a8, a9, a10, a11, a12, a13, a14, a15, a16, a17] = some [.v (scr ns), .l (row ns i h c), .v (.str w), .v (.int (l : Nat)), .v (.tuple es), a5, a6, .v q, a8, a9, a10, a11, a12, a13, a14, a15, a16, a17] := by simp [gN_eq, h7]
  have eb := (sSeq_nx (b := sSeq lb2 (sSeq liFor (sSeq lb4 lb5))) e1).trans ((sSeq_nx e2).trans ((sSeq_nx e3).trans ((sSeq_nx e4).trans e5)))
  refine ⟨_, _, eg, .inl eb, ?_⟩
  exact ⟨i', h', c', .v (.list (someL (l : Nat))), .v q, .v (.int (k : Nat)), .v d, .v (.tuple all), .v (.tuple (nats t)), .v (wrD o), z13, z14, .v (dueD t o), z16, z17, hi', .inr rfl, rfl, rfl, rfl, rfl, rfl, rfl, k13, k14, rfl, k16, k17, rfl⟩
theorem lwFor_ok (g : WX w l X) (hz : es.length ≤ 50) (hs : ∀ d ∈ es, SeqAt.shaped d = true) (hi : 0 ≤ i) : ∃ r, lwFor [.v (scr ns), .l (row ns i h c), .v (.str w), .v (.int (l : Nat)), .v (.tuple es), a5, .l (someL (l : Nat)), .un, .un, .un, .un, .un, .un, .un, .un, .un, .un, .un] = .ok .nx r := by
  have h0 : lwP ns w l es a5 [.v (scr ns), .l (row ns i h c), .v (.str w), .v (.int (l : Nat)), .v (.tuple es), a5, .l (someL (l : Nat)), .un, .un, .un, .un, .un, .un, .un, .un, .un, .un, .un] := ⟨i, h, c, .l (someL (l : Nat)), .un, .un, .un, .un, .un, .un, .un, .un, .un, .un, .un, hi, .inl rfl, rfl, rfl, rfl, rfl, rfl, rfl, rfl, rfl, rfl, rfl, rfl, rfl⟩
  obtain ⟨r', q, _⟩ := for_inv (T := gN 7) (b := lbB) (P := fun _ r => lwP ns w l es a5 r) (ds := rangeD 0 6) (k := 0) h0 (fun j d r hj hr => lw_step g hz hs hr)
  have ei : (aBind (aV (dC (.int 6)) aNil) iRange1) [.v (scr ns), .l (row ns i h c), .v (.str w), .v (.int (l : Nat)), .v (.tuple es), a5, .l (someL (l : Nat)), .un, .un, .un, .un, .un, .un, .un, .un, .un, .un, .un] = .ok (rangeD 0 6) [.v (scr ns), .l (row ns i h c), .v (.str w), .v (.int (l : Nat)), .v (.tuple es), a5, .l (someL (l : Nat)), .un, .un, .un, .un, .un, .un, .un, .un, .un, .un, .un] := range1_ok (n := 6) rfl (by omega)
  exact ⟨r', (sFor_ok ei).trans q⟩
theorem lw1_ok : lw1 [.v (scr ns), .un, .un, .un, .un, .un, .un, .un, .un, .un, .un, .un, .un, .un, .un, .un, .un, .un] = .ok .nx [.v (scr ns), .l (row ns 0 1002 0), .un, .un, .un, .un, .un, .un, .un, .un, .un, .un, .un, .un, .un, .un, .un, .un] := by
  simp [lw1, row, fnOf, sSeq, sSetX, xV, xL, dCall, aV, aIo, aNil, dVar, M.bind, Res.bind, M.ret, M.opt, reso, nodupB, ioIx, argsSl, backSl, tSetX, lLst, aBind, allV, dC, sizeLine_eq, sFor, iSeq, items, sRet, sIf, dtOr, dtNot, dtAnd, asB, dIsi, dIsi2, isB, tyN, dBin, two, oV, oN, dFx, xFn, aO, resA, fLen, fNe_int, fEq_int, fNe_bool, fEq_bool, fEq_none, fEq_nil, fLe, fGt, fGe, fCmp, dFz, fTuple, sNil, sDrop, dChain, dAnd, dNot, Sl.own, Sl.put, dGen, genB, lLc, lcB, iEnZip, TW.iEnum, gT, gLen, gsC, gsN, sAsg, tAsgG, gN_eq, tSet_eq, tSetL_eq, noIo_eq, wipeR, nio_un, nio_v, nio_l, fInt, fSub, fAdd, xBin, fIx, xSl, pAt, pNo, fSl, dIf, fIs, isNone, unwipe_eq, nio_wp, sh_int, sh_bool, sh_none, eqv_int, eqv_bool, eqv_none]
theorem lw2_ok (hi : 0 ≤ i) : ∃ (w : Str) (l : Nat) (i' h' c' : Int), w ∈ wnames ∧ l ∈ [1, 2, 3] ∧ 0 ≤ i' ∧ lw2 [.v (scr ns), .l (row ns i h c), .un, .un, .un, .un, .un, .un, .un, .un, .un, .un, .un, .un, .un, .un, .un, .un] = .ok .nx [.v (scr ns), (.l (row ns i' h' c')), .v (.str w), .v (.int (l : Nat)), .un, .un, .un, .un, .un, .un, .un, .un, .un, .un, .un, .un, .un, .un] := by
  obtain ⟨w, i1, h1, c1, hw, hi1, out, e⟩ := world (ns := ns) (h := h) (c := c) hi
  have e1 : (dCall (D__law_world) (aIo 1 aNil)) [.v (scr ns), .l (row ns i h c), .un, .un, .un, .un, .un, .un, .un, .un, .un, .un, .un, .un, .un, .un, .un, .un] = .ok (.str w) [.v (scr ns), (.l (row ns i1 h1 c1)), .un, .un, .un, .un, .un, .un, .un, .un, .un, .un, .un, .un, .un, .un, .un, .un] := by
    simp [dCall, aIo, aV, aNil, M.bind, Res.bind, M.ret, Sl.own, nodupB, ioIx, argsSl, e, backSl, Sl.put]
  obtain ⟨t, i2, h2, c2, t0, t1, hi2, e2⟩ := call_taken (r := [.v (scr ns), (.l (row ns i1 h1 c1)), .un, .un, .un, .un, .un, .un, .un, .un, .un, .un, .un, .un, .un, .un, .un, .un]) (de := dC (.int 3)) (m := 3) (ns := ns) (i := i1) (h := h1) (c := c1) (k := 1) rfl rfl (by omega) (by omega) hi1
  refine ⟨w, (1 + t).toNat, i2, h2, c2, hw, ?_, hi2, ?_⟩
  · simp only [List.mem_cons, List.not_mem_nil, or_false]
    omega
  · have ec : (((1 + t).toNat : Nat) : Int) = 1 + t := Int.toNat_of_nonneg (by omega)
    rw [ec]
    unfold lw2
    generalize dCall D__law_world (aIo 1 aNil) = F at e1 ⊢
    generalize dCall D__law_taken (aIo 1 (aV (dC (.int 3)) aNil)) = F2 at e2 ⊢
    simp [sPar, axCons, axNil, TW.parSl, slOf, fnOf, sSeq, sSetX, xV, xL, dCall, aV, aIo, aNil, dVar, M.bind, Res.bind, M.ret, M.opt, reso, nodupB, ioIx, argsSl, backSl, tSetX, lLst, aBind, allV, dC, sizeLine_eq, sFor, iSeq, items, sRet, sIf, dtOr, dtNot, dtAnd, asB, dIsi, dIsi2, isB, tyN, dBin, two, oV, oN, dFx, xFn, aO, resA, fLen, fNe_int, fEq_int, fNe_bool, fEq_bool, fEq_none, fEq_nil, fLe, fGt, fGe, fCmp, dFz, fTuple, sNil, sDrop, dChain, dAnd, dNot, Sl.own, Sl.put, dGen, genB, lLc, lcB, iEnZip, TW.iEnum, gT, gLen, gsC, gsN, sAsg, tAsgG, gN_eq, tSet_eq, tSetL_eq, noIo_eq, wipeR, nio_un, nio_v, nio_l, fInt, fSub, fAdd, xBin, fIx, xSl, pAt, pNo, fSl, dIf, fIs, isNone, unwipe_eq, nio_wp, sh_int, sh_bool, sh_none, eqv_int, eqv_bool, eqv_none, e1, e2]
theorem lw3_ok (g : WX w l X) : lw3 [.v (scr ns), .l (row ns i h c), .v (.str w), .v (.int (l : Nat)), a4, a5, a6, a7, a8, a9, a10, a11, a12, a13, a14, a15, a16, a17] = .ok .nx [.v (scr ns), .l (row ns i h c), .v (.str w), .v (.int (l : Nat)), a4, a5, a6, a7, a8, a9, a10, a11, a12, a13, a14, a15, a16, a17] := by
  obtain ⟨o1, e1⟩ := messages_ok g
  obtain ⟨_, ⟨o2, e2⟩, _⟩ := msgs_all g.hw (lI g.hl)
  rw [g.e] at e2
  obtain ⟨o3, e3⟩ := alike_self (okA_X g)
  have e4 : lw3t [.v (scr ns), .l (row ns i h c), .v (.str w), .v (.int (l : Nat)), a4, a5, a6, a7, a8, a9, a10, a11, a12, a13, a14, a15, a16, a17] = .ok false [.v (scr ns), .l (row ns i h c), .v (.str w), .v (.int (l : Nat)), a4, a5, a6, a7, a8, a9, a10, a11, a12, a13, a14, a15, a16, a17] := by
    unfold lw3t
    generalize D__law_alike 6 = F at e3 ⊢
    generalize D_messages = F2 at e1 ⊢
    generalize D__law_messages = F3 at e2 ⊢
    generalize X.map Ms.d = D at *
    simp [fnOf, sSeq, sSetX, xV, xL, dCall, aV, aIo, aNil, dVar, M.bind, Res.bind, M.ret, M.opt, reso, nodupB, ioIx, argsSl, backSl, tSetX, lLst, aBind, allV, dC, sizeLine_eq, sFor, iSeq, items, sRet, sIf, dtOr, dtNot, dtAnd, asB, dIsi, dIsi2, isB, tyN, dBin, two, oV, oN, dFx, xFn, aO, resA, fLen, fNe_int, fEq_int, fNe_bool, fEq_bool, fEq_none, fEq_nil, fLe, fGt, fGe, fCmp, dFz, fTuple, sNil, sDrop, dChain, dAnd, dNot, Sl.own, Sl.put, dGen, genB, lLc, lcB, iEnZip, TW.iEnum, gT, gLen, gsC, gsN, sAsg, tAsgG, gN_eq, tSet_eq, tSetL_eq, noIo_eq, wipeR, nio_un, nio_v, nio_l, fInt, fSub, fAdd, xBin, fIx, xSl, pAt, pNo, fSl, dIf, fIs, isNone, unwipe_eq, nio_wp, sh_int, sh_bool, sh_none, eqv_int, eqv_bool, eqv_none, e1, e2, e3]
  exact sIf_no e4
theorem lw4_ok (g : WX w l X) (hi : 0 ≤ i) : ∃ (i' h' c' : Int) (es ts : List PyData) (t : List Nat), 0 ≤ i' ∧ es.length ≤ 20 ∧ Run w l X es 0 [] t none ∧ (∀ d ∈ es, ∃ t, d ∈ edits w X t) ∧
    lw4 [.v (scr ns), .l (row ns i h c), .v (.str w), .v (.int (l : Nat)), .un, .un, .un, .un, .un, .un, .un, .un, .un, .un, .un, .un, .un, .un] = .ok .nx [.v (scr ns), (.l (row ns i' h' c')), .v (.str w), .v (.int (l : Nat)), .v (.tuple es), (.v (.list (ts ++ [.tuple (nats t)]))), .un, .un, .un, .un, .un, .un, .un, .un, .un, .un, .un, .un] := by
  obtain ⟨m, i1, h1, c1, t0, t1, hi1, e1⟩ := call_taken (r := [.v (scr ns), .l (row ns i h c), .v (.str w), .v (.int (l : Nat)), .un, .un, .un, .un, .un, .un, .un, .un, .un, .un, .un, .un, .un, .un]) (de := dC (.int 20)) (m := 20) (ns := ns) (i := i) (h := h) (c := c) (k := 1) rfl rfl (by omega) (by omega) hi
  obtain ⟨i2, h2, c2, es, ts, t, hi2, hes, hr, hall, out, e2⟩ := history (ns := ns) (i := i1) (h := h1) (c := c1) (m := m.toNat) g (by omega) hi1
  rw [Int.toNat_of_nonneg t0] at e2
  refine ⟨i2, h2, c2, es, ts, t, hi2, by omega, hr, hall, ?_⟩
  unfold lw4 lwTk
  generalize dCall D__law_taken (aIo 1 (aV (dC (.int 20)) aNil)) = F at e1 ⊢
  generalize D__law_history = F2 at e2 ⊢
  simp [fnOf, sSeq, sSetX, xV, xL, dCall, aV, aIo, aNil, dVar, M.bind, Res.bind, M.ret, M.opt, reso, nodupB, ioIx, argsSl, backSl, tSetX, lLst, aBind, allV, dC, sizeLine_eq, sFor, iSeq, items, sRet, sIf, dtOr, dtNot, dtAnd, asB, dIsi, dIsi2, isB, tyN, dBin, two, oV, oN, dFx, xFn, aO, resA, fLen, fNe_int, fEq_int, fNe_bool, fEq_bool, fEq_none, fEq_nil, fLe, fGt, fGe, fCmp, dFz, fTuple, sNil, sDrop, dChain, dAnd, dNot, Sl.own, Sl.put, dGen, genB, lLc, lcB, iEnZip, TW.iEnum, gT, gLen, gsC, gsN, sAsg, tAsgG, gN_eq, tSet_eq, tSetL_eq, noIo_eq, wipeR, nio_un, nio_v, nio_l, fInt, fSub, fAdd, xBin, fIx, xSl, pAt, pNo, fSl, dIf, fIs, isNone, unwipe_eq, nio_wp, sh_int, sh_bool, sh_none, eqv_int, eqv_bool, eqv_none, e1, e2, aIo, ioIx, argsSl, backSl, Sl.put]
theorem lw5_ok (g : WX w l X) (hz : es.length ≤ 20) (hr : Run w l X es 0 [] t none) (hs : ∀ d ∈ es, SeqAt.shaped d = true) : lw5 [.v (scr ns), .l (row ns i h c), .v (.str w), .v (.int (l : Nat)), .v (.tuple es), .v (.list (ts ++ [.tuple (nats t)])), a6, a7, a8, a9, a10, a11, a12, a13, a14, a15, a16, a17] = .ok .nx [.v (scr ns), .l (row ns i h c), .v (.str w), .v (.int (l : Nat)), .v (.tuple es), .v (.list (ts ++ [.tuple (nats t)])), a6, a7, a8, a9, a10, a11, a12, a13, a14, a15, a16, a17] := by
  obtain ⟨o1, e1⟩ := text_after g hr (by omega) hs
  have hl := run_len hr
  obtain ⟨o3, e3⟩ := alike_self (okA_nats t (by simp at hl; omega))
  have e2 := atI_last ts (.tuple (nats t))
  simp only at e1
  have e4 : lw5t [.v (scr ns), .l (row ns i h c), .v (.str w), .v (.int (l : Nat)), .v (.tuple es), .v (.list (ts ++ [.tuple (nats t)])), a6, a7, a8, a9, a10, a11, a12, a13, a14, a15, a16, a17] = .ok false [.v (scr ns), .l (row ns i h c), .v (.str w), .v (.int (l : Nat)), .v (.tuple es), .v (.list (ts ++ [.tuple (nats t)])), a6, a7, a8, a9, a10, a11, a12, a13, a14, a15, a16, a17] := by
    unfold lw5t
    generalize D__law_alike 6 = F at e3 ⊢
    generalize D_text_after = F2 at e1 ⊢
    simp [dNeg, fnOf, sSeq, sSetX, xV, xL, dCall, aV, aIo, aNil, dVar, M.bind, Res.bind, M.ret, M.opt, reso, nodupB, ioIx, argsSl, backSl, tSetX, lLst, aBind, allV, dC, sizeLine_eq, sFor, iSeq, items, sRet, sIf, dtOr, dtNot, dtAnd, asB, dIsi, dIsi2, isB, tyN, dBin, two, oV, oN, dFx, xFn, aO, resA, fLen, fNe_int, fEq_int, fNe_bool, fEq_bool, fEq_none, fEq_nil, fLe, fGt, fGe, fCmp, dFz, fTuple, sNil, sDrop, dChain, dAnd, dNot, Sl.own, Sl.put, dGen, genB, lLc, lcB, iEnZip, TW.iEnum, gT, gLen, gsC, gsN, sAsg, tAsgG, gN_eq, tSet_eq, tSetL_eq, noIo_eq, wipeR, nio_un, nio_v, nio_l, fInt, fSub, fAdd, xBin, fIx, xSl, pAt, pNo, fSl, dIf, fIs, isNone, unwipe_eq, nio_wp, sh_int, sh_bool, sh_none, eqv_int, eqv_bool, eqv_none, e1, e2, e3]
  exact sIf_no e4
theorem lw6_ok (g : WX w l X) (hz : es.length ≤ 20) (hr : Run w l X es 0 [] t none) (hs : ∀ d ∈ es, SeqAt.shaped d = true) (hall : ∀ d ∈ es, ∃ t, d ∈ edits w X t) : lw6 [.v (scr ns), .l (row ns i h c), .v (.str w), .v (.int (l : Nat)), .v (.tuple es), a5, a6, a7, a8, a9, a10, a11, a12, a13, a14, a15, a16, a17] = .ok .nx [.v (scr ns), .l (row ns i h c), .v (.str w), .v (.int (l : Nat)), .v (.tuple es), a5, a6, a7, a8, a9, a10, a11, a12, a13, a14, a15, a16, a17] := by
  have hT : ∀ d ∈ es, isT d := fun d hd => by
    obtain ⟨t, ht⟩ := hall d hd
    exact isT_ed g ht
  obtain ⟨o1, e1⟩ := told g hr (by omega) hs hT
  obtain ⟨o2, e2⟩ := said g.hw hT (by omega)
  obtain ⟨o3, e3⟩ := alike_self (okA_sd g (by omega) hall)
  have e4 : lw6t [.v (scr ns), .l (row ns i h c), .v (.str w), .v (.int (l : Nat)), .v (.tuple es), a5, a6, a7, a8, a9, a10, a11, a12, a13, a14, a15, a16, a17] = .ok false [.v (scr ns), .l (row ns i h c), .v (.str w), .v (.int (l : Nat)), .v (.tuple es), a5, a6, a7, a8, a9, a10, a11, a12, a13, a14, a15, a16, a17] := by
    unfold lw6t
    generalize D__law_alike 6 = F at e3 ⊢
    generalize D_told = F2 at e1 ⊢
    generalize D__law_said = F3 at e2 ⊢
    generalize es.map (sdD w) = D at *
    simp [fnOf, sSeq, sSetX, xV, xL, dCall, aV, aIo, aNil, dVar, M.bind, Res.bind, M.ret, M.opt, reso, nodupB, ioIx, argsSl, backSl, tSetX, lLst, aBind, allV, dC, sizeLine_eq, sFor, iSeq, items, sRet, sIf, dtOr, dtNot, dtAnd, asB, dIsi, dIsi2, isB, tyN, dBin, two, oV, oN, dFx, xFn, aO, resA, fLen, fNe_int, fEq_int, fNe_bool, fEq_bool, fEq_none, fEq_nil, fLe, fGt, fGe, fCmp, dFz, fTuple, sNil, sDrop, dChain, dAnd, dNot, Sl.own, Sl.put, dGen, genB, lLc, lcB, iEnZip, TW.iEnum, gT, gLen, gsC, gsN, sAsg, tAsgG, gN_eq, tSet_eq, tSetL_eq, noIo_eq, wipeR, nio_un, nio_v, nio_l, fInt, fSub, fAdd, xBin, fIx, xSl, pAt, pNo, fSl, dIf, fIs, isNone, unwipe_eq, nio_wp, sh_int, sh_bool, sh_none, eqv_int, eqv_bool, eqv_none, e1, e2, e3]
  exact sIf_no e4
def some7 : List PyData := [.tuple [.str "put", .int 0], .tuple [.str "put", .int 0, .int 0], .tuple [.str "front", .int 0], .tuple [.str "chop", .int 0], .tuple [.str "behead", .int 0], .tuple [.str "take", .int 0, .int 0], .tuple [.str "turn"]]
def some8 (l : Int) : List PyData := [.tuple [.str "put", .int l], .tuple [.str "put", .bool true], .tuple [.str "put", .int 0, .int 99], .tuple [.str "take", .int 0, .int 99], .none, .tuple [], .list [.str "put", .int 0]]
def some9 : List PyData := [.tuple [.str "turn", .list [.int 0]], .str "put", .tuple [.str "turn", .tuple [.int 0]]]
def some10 : List PyData := [.tuple [.str "turn", .tuple [.int 1, .int 0]], .tuple [.str "turn", .tuple [.int 0, .int 0]], .tuple [.str "Put", .int 0], .tuple [.str "put", .int (-1)], .tuple [.str "put", .int 0, .bool true], .tuple [.str "put"]]
theorem lw7_ok : lw7 [.v (scr ns), .l (row ns i h c), .v (.str w), .v (.int (l : Nat)), .v (.tuple es), a5, .un, a7, a8, a9, a10, a11, a12, a13, a14, a15, a16, a17] = .ok .nx [.v (scr ns), .l (row ns i h c), .v (.str w), .v (.int (l : Nat)), .v (.tuple es), a5, .l some7, a7, a8, a9, a10, a11, a12, a13, a14, a15, a16, a17] := by
  simp [lw7, some7, dTup, fnOf, sSeq, sSetX, xV, xL, dCall, aV, aIo, aNil, dVar, M.bind, Res.bind, M.ret, M.opt, reso, nodupB, ioIx, argsSl, backSl, tSetX, lLst, aBind, allV, dC, sizeLine_eq, sFor, iSeq, items, sRet, sIf, dtOr, dtNot, dtAnd, asB, dIsi, dIsi2, isB, tyN, dBin, two, oV, oN, dFx, xFn, aO, resA, fLen, fNe_int, fEq_int, fNe_bool, fEq_bool, fEq_none, fEq_nil, fLe, fGt, fGe, fCmp, dFz, fTuple, sNil, sDrop, dChain, dAnd, dNot, Sl.own, Sl.put, dGen, genB, lLc, lcB, iEnZip, TW.iEnum, gT, gLen, gsC, gsN, sAsg, tAsgG, gN_eq, tSet_eq, tSetL_eq, noIo_eq, wipeR, nio_un, nio_v, nio_l, fInt, fSub, fAdd, xBin, fIx, xSl, pAt, pNo, fSl, dIf, fIs, isNone, unwipe_eq, nio_wp, sh_int, sh_bool, sh_none, eqv_int, eqv_bool, eqv_none]
theorem lw8_ok {s : List PyData} (hz : s.length ≤ 100) : lw8 [.v (scr ns), .l (row ns i h c), .v (.str w), .v (.int (l : Nat)), .v (.tuple es), a5, .l s, a7, a8, a9, a10, a11, a12, a13, a14, a15, a16, a17] = .ok .nx [.v (scr ns), .l (row ns i h c), .v (.str w), .v (.int (l : Nat)), .v (.tuple es), a5, .l (s ++ some8 (l : Nat)), a7, a8, a9, a10, a11, a12, a13, a14, a15, a16, a17] := by
  have z : s.length + 7 ≤ 16777216 := by omega
  simp [lw8, some8, dTup, fnOf, sSeq, sSetX, xV, xL, dCall, aV, aIo, aNil, dVar, M.bind, Res.bind, M.ret, M.opt, reso, nodupB, ioIx, argsSl, backSl, tSetX, lLst, aBind, allV, dC, sizeLine_eq, sFor, iSeq, items, sRet, sIf, dtOr, dtNot, dtAnd, asB, dIsi, dIsi2, isB, tyN, dBin, two, oV, oN, dFx, xFn, aO, resA, fLen, fNe_int, fEq_int, fNe_bool, fEq_bool, fEq_none, fEq_nil, fLe, fGt, fGe, fCmp, dFz, fTuple, sNil, sDrop, dChain, dAnd, dNot, Sl.own, Sl.put, dGen, genB, lLc, lcB, iEnZip, TW.iEnum, gT, gLen, gsC, gsN, sAsg, tAsgG, gN_eq, tSet_eq, tSetL_eq, noIo_eq, wipeR, nio_un, nio_v, nio_l, fInt, fSub, fAdd, xBin, fIx, xSl, pAt, pNo, fSl, dIf, fIs, isNone, unwipe_eq, nio_wp, sh_int, sh_bool, sh_none, eqv_int, eqv_bool, eqv_none, z]
theorem lw9_ok {s : List PyData} (hz : s.length ≤ 100) : lw9 [.v (scr ns), .l (row ns i h c), .v (.str w), .v (.int (l : Nat)), .v (.tuple es), a5, .l s, a7, a8, a9, a10, a11, a12, a13, a14, a15, a16, a17] = .ok .nx [.v (scr ns), .l (row ns i h c), .v (.str w), .v (.int (l : Nat)), .v (.tuple es), a5, .l (s ++ some9), a7, a8, a9, a10, a11, a12, a13, a14, a15, a16, a17] := by
  have z : s.length + 3 ≤ 16777216 := by omega
  simp [lw9, some9, dTup, fnOf, sSeq, sSetX, xV, xL, dCall, aV, aIo, aNil, dVar, M.bind, Res.bind, M.ret, M.opt, reso, nodupB, ioIx, argsSl, backSl, tSetX, lLst, aBind, allV, dC, sizeLine_eq, sFor, iSeq, items, sRet, sIf, dtOr, dtNot, dtAnd, asB, dIsi, dIsi2, isB, tyN, dBin, two, oV, oN, dFx, xFn, aO, resA, fLen, fNe_int, fEq_int, fNe_bool, fEq_bool, fEq_none, fEq_nil, fLe, fGt, fGe, fCmp, dFz, fTuple, sNil, sDrop, dChain, dAnd, dNot, Sl.own, Sl.put, dGen, genB, lLc, lcB, iEnZip, TW.iEnum, gT, gLen, gsC, gsN, sAsg, tAsgG, gN_eq, tSet_eq, tSetL_eq, noIo_eq, wipeR, nio_un, nio_v, nio_l, fInt, fSub, fAdd, xBin, fIx, xSl, pAt, pNo, fSl, dIf, fIs, isNone, unwipe_eq, nio_wp, sh_int, sh_bool, sh_none, eqv_int, eqv_bool, eqv_none, z]
theorem lw10_ok {s : List PyData} (hz : s.length ≤ 100) : lw10 [.v (scr ns), .l (row ns i h c), .v (.str w), .v (.int (l : Nat)), .v (.tuple es), a5, .l s, a7, a8, a9, a10, a11, a12, a13, a14, a15, a16, a17] = .ok .nx [.v (scr ns), .l (row ns i h c), .v (.str w), .v (.int (l : Nat)), .v (.tuple es), a5, .l (s ++ some10), a7, a8, a9, a10, a11, a12, a13, a14, a15, a16, a17] := by
  have z : s.length + 6 ≤ 16777216 := by omega
  simp [lw10, some10, dTup, fnOf, sSeq, sSetX, xV, xL, dCall, aV, aIo, aNil, dVar, M.bind, Res.bind, M.ret, M.opt, reso, nodupB, ioIx, argsSl, backSl, tSetX, lLst, aBind, allV, dC, sizeLine_eq, sFor, iSeq, items, sRet, sIf, dtOr, dtNot, dtAnd, asB, dIsi, dIsi2, isB, tyN, dBin, two, oV, oN, dFx, xFn, aO, resA, fLen, fNe_int, fEq_int, fNe_bool, fEq_bool, fEq_none, fEq_nil, fLe, fGt, fGe, fCmp, dFz, fTuple, sNil, sDrop, dChain, dAnd, dNot, Sl.own, Sl.put, dGen, genB, lLc, lcB, iEnZip, TW.iEnum, gT, gLen, gsC, gsN, sAsg, tAsgG, gN_eq, tSet_eq, tSetL_eq, noIo_eq, wipeR, nio_un, nio_v, nio_l, fInt, fSub, fAdd, xBin, fIx, xSl, pAt, pNo, fSl, dIf, fIs, isNone, unwipe_eq, nio_wp, sh_int, sh_bool, sh_none, eqv_int, eqv_bool, eqv_none, z]
theorem some_eq (l : Int) : ((some7 ++ some8 l) ++ some9) ++ some10 = someL l := rfl
end
theorem plain (ns : List Int) : ∃ r, D_law [.v (scr ns)] = .ok (.bool true) r := by
  rw [law_eq]
  have e1 := lw1_ok (ns := ns)
  obtain ⟨w, l, i2, h2, c2, hw, hl, hi2, e2⟩ := lw2_ok (ns := ns) (i := 0) (h := 1002) (c := 0) (by omega)
  obtain ⟨X, g⟩ := wx hw hl
  have e3 := lw3_ok (ns := ns) (i := i2) (h := h2) (c := c2) (a4 := .un) (a5 := .un) (a6 := .un) (a7 := .un) (a8 := .un) (a9 := .un) (a10 := .un) (a11 := .un) (a12 := .un) (a13 := .un) (a14 := .un) (a15 := .un) (a16 := .un) (a17 := .un) g
  obtain ⟨i4, h4, c4, es, ts, t, hi4, hes, hr, hall, e4⟩ := lw4_ok (ns := ns) (i := i2) (h := h2) (c := c2) g hi2
  have hs : ∀ d ∈ es, SeqAt.shaped d = true := fun d hd => by
    obtain ⟨t, ht⟩ := hall d hd
    exact okD_sh (okD_ed g ht)
  have e5 := lw5_ok (ns := ns) (i := i4) (h := h4) (c := c4) (ts := ts) (a6 := .un) (a7 := .un) (a8 := .un) (a9 := .un) (a10 := .un) (a11 := .un) (a12 := .un) (a13 := .un) (a14 := .un) (a15 := .un) (a16 := .un) (a17 := .un) g hes hr hs
  have e6 := lw6_ok (ns := ns) (i := i4) (h := h4) (c := c4) (a5 := .v (.list (ts ++ [.tuple (nats t)]))) (a6 := .un) (a7 := .un) (a8 := .un) (a9 := .un) (a10 := .un) (a11 := .un) (a12 := .un) (a13 := .un) (a14 := .un) (a15 := .un) (a16 := .un) (a17 := .un) g hes hr hs hall
  have e7 := lw7_ok (w := w) (l := l) (ns := ns) (i := i4) (h := h4) (c := c4) (es := es) (a5 := .v (.list (ts ++ [.tuple (nats t)]))) (a7 := .un) (a8 := .un) (a9 := .un) (a10 := .un) (a11 := .un) (a12 := .un) (a13 := .un) (a14 := .un) (a15 := .un) (a16 := .un) (a17 := .un)
  have e8 := lw8_ok (w := w) (l := l) (ns := ns) (i := i4) (h := h4) (c := c4) (es := es) (a5 := .v (.list (ts ++ [.tuple (nats t)]))) (a7 := .un) (a8 := .un) (a9 := .un) (a10 := .un) (a11 := .un) (a12 := .un) (a13 := .un) (a14 := .un) (a15 := .un) (a16 := .un) (a17 := .un) (s := some7) (by decide)
  have e9 := lw9_ok (w := w) (l := l) (ns := ns) (i := i4) (h := h4) (c := c4) (es := es) (a5 := .v (.list (ts ++ [.tuple (nats t)]))) (a7 := .un) (a8 := .un) (a9 := .un) (a10 := .un) (a11 := .un) (a12 := .un) (a13 := .un) (a14 := .un) (a15 := .un) (a16 := .un) (a17 := .un) (s := some7 ++ some8 (l : Nat)) (by simp [some7, some8])
  have e10 := lw10_ok (w := w) (l := l) (ns := ns) (i := i4) (h := h4) (c := c4) (es := es) (a5 := .v (.list (ts ++ [.tuple (nats t)]))) (a7 := .un) (a8 := .un) (a9 := .un) (a10 := .un) (a11 := .un) (a12 := .un) (a13 := .un) (a14 := .un) (a15 := .un) (a16 := .un) (a17 := .un) (s := (some7 ++ some8 (l : Nat)) ++ some9) (by simp [some7, some8, some9])
  rw [some_eq] at e10
  obtain ⟨r, e11⟩ := lwFor_ok (ns := ns) (i := i4) (h := h4) (c := c4) (a5 := .v (.list (ts ++ [.tuple (nats t)]))) g (by omega) hs hi4
  generalize lwFor = F at e11 ⊢
  exact ⟨_, fnOf_rt rfl ((sSeq_nx e1).trans ((sSeq_nx e2).trans ((sSeq_nx e3).trans ((sSeq_nx e4).trans ((sSeq_nx e5).trans ((sSeq_nx e6).trans ((sSeq_nx e7).trans ((sSeq_nx e8).trans ((sSeq_nx e9).trans ((sSeq_nx e10).trans ((sSeq_nx e11).trans (sRet_ok rfl))))))))))))⟩
end K02

end
section
theorem K02.fin : PySem.Challenge.rw_toldwhat_k02_whole_worlds.Holds := K02.holds fun ns _ _ => K02.plain ns

end
open PySem PySem.W PyProof.Rows
theorem PySem.Challenge.cw_toldwhat_k02_whole_worlds_holds : PySem.Challenge.rw_toldwhat_k02_whole_worlds.Holds := by
  exact K02.fin
