import PyProof.Rows.All
import Wide.All
import OpenK.AllK
import Wide.FinOn
import HandS.ForMost
import HandS.Flow
import HandS.IsInst
import HandS.Star
import HandS.TupAny
import HandS.Exc
import HandS.Lambda
import KE.KNest
import HandS.TupMul
import HandS.Zip
import HandS.Wide
import HandS.Style
import HandS.Set
import HandS.SetFor
import HandS.Strs
import HandS.Text
import HandS.Codes
import HandS.FStr
import HandS.WordsExc
import HandS.ExcOwn
import HandS.Replace
import HandS.EndTab
import HandS.EndBits
import KE.KExcSuper
import KE.KSuper
import HandS.ExcInit
import HandS.HeadWalk
import KE.KExcIs
import HandS.ExcField
import HandS.ExcIs
import HandS.ExcValue
import HandS.Dict
import KE.KNestM
import KE.RegKSuper
import PySem.Challenge.RW_stillhits_k67_finders_as_texts
set_option Elab.async false
set_option linter.all false
set_option maxRecDepth 100000
set_option maxHeartbeats 4000000
/-! Mz: a layer over HandS: Python values as plain data D, a small heap of the mutable objects, a def as a total Lean function in a monad M -/
namespace Mz
open PySem L2

/-! ### data -/
inductive D where
  | non | bl (b : Bool) | int (i : Int) | str (x : List Nat) | tup (ds : List D) | lst (ds : List D) | arg (ds : List D) | ref (n : Nat) | ty (n : String) | edict | rpr (d : D)
mutual
def toP : D → PyData
  | .bl b => .bool b
  | .int i => .int i
  | .str x => .str ⟨x.toArray⟩
  | .tup ds => .tuple (toPs ds)
  | .lst ds => .list (toPs ds)
  | .edict => .dict []
  | _ => .none
def toPs : List D → List PyData
  | [] => []
  | d :: ds => toP d :: toPs ds
end
/-- the mutable objects -/
inductive O where
  | lst (ds : List D)
  /-- a caught error of the class c, its value d -/
  | err (c : Str) (d : D)
  /-- the table of the code objects that the def x makes, q their name -/
  | tab (x q : Str)
  | dead
abbrev Hc := List O
inductive R (α : Type) where
  | ok (a : α) (h : Hc)
  | exc (c : Str) (d : D) (h : Hc)
  | bad
abbrev M (α : Type) := Hc → R α
abbrev L := List (Option D)
def M.ret {α : Type} (a : α) : M α := fun h => .ok a h
def R.andThen {α β : Type} (r : R α) (f : α → M β) : R β := match r with
  | .ok a h => f a h
  | .exc c d h => .exc c d h
  | .bad => .bad
def M.bind {α β : Type} (m : M α) (f : α → M β) : M β := fun h => (m h).andThen f
def M.of {α : Type} (o : Option α) : M α := fun h => match o with
  | some a => .ok a h
  | none => .bad
theorem andThen_ok {α β : Type} (a : α) (h : Hc) (f : α → M β) : (R.ok a h).andThen f = f a h := rfl
theorem bind_ok {α β : Type} {m : M α} {f : α → M β} {h h1 : Hc} {a : α} (e : m h = .ok a h1) : M.bind m f h = f a h1 := by
  unfold M.bind; rw [e]; rfl

/-! ### worlds: where the mutable objects stand, and what is fixed -/
structure Wd where
  ρ : List Addr
  F : Hp
def Wd.le (w w' : Wd) : Prop := (∃ r, w'.ρ = w.ρ ++ r) ∧ ∀ a o, w.F a = some o → w'.F a = some o
theorem Wd.le_refl (w : Wd) : w.le w := ⟨⟨[], by simp⟩, fun _ _ e => e⟩
theorem Wd.le.trans {a b c : Wd} (x : a.le b) (y : b.le c) : a.le c := by
  obtain ⟨⟨r, e⟩, f⟩ := x
  obtain ⟨⟨r', e'⟩, f'⟩ := y
  exact ⟨⟨r ++ r', by rw [e', e, List.append_assoc]⟩, fun p o q => f' p o (f p o q)⟩

def cs (x : List Nat) : Str := ⟨x.toArray⟩
theorem cs_inj {x y : List Nat} (h : cs x = cs y) : x = y := by
  unfold cs at h
  injection h with h
  simpa using congrArg Array.toList h
theorem cs_length (x : List Nat) : (cs x).length = x.length := by simp [cs, Str.length]
theorem cs_cps (x : List Nat) : (cs x).cps.toList = x := by simp [cs]
theorem cs_of (x : Str) : cs x.cps.toList = x := by cases x; simp [cs]

mutual
def RV (K : PySem.W.Frag) (w : Wd) : D → V → Prop
  | .non, v => v = .non
  | .bl b, v => v = .bl b
  | .int i, v => v = .int i
  | .str x, v => v = .str (cs x) ∧ x.length ≤ sizeLine ∧ x.all (fun c => decide (c < 0x110000)) = true
  | .tup ds, v => ∃ a vs, v = .ref a ∧ SqT K w.F a vs ∧ ds.length ≤ sizeLine ∧ RVs K w ds vs
  | .lst ds, v => ∃ a vs, v = .ref a ∧ w.F a = some (.lst vs) ∧ ds.length ≤ sizeLine ∧ RVs K w ds vs
  | .arg ds, v => ∃ a vs, v = .ref a ∧ SqL K w.F a vs ∧ ds.length ≤ sizeLine ∧ RVs K w ds vs
  | .ref n, v => ∃ a, v = .ref a ∧ w.ρ[n]? = some a
  | .ty n, v => v = .ty n
  | .edict, v => ∃ a, v = .ref a ∧ w.F a = some (.dK [])
  | .rpr d, v => v = .str (PyData.shown (toP d))
def RVs (K : PySem.W.Frag) (w : Wd) : List D → List V → Prop
  | [], vs => vs = []
  | d :: ds, vs => ∃ v vs', vs = v :: vs' ∧ RV K w d v ∧ RVs K w ds vs'
end

theorem SqT.le {K : PySem.W.Frag} {F F' : Hp} {a : Addr} {xs : List V} (f : ∀ a o, F a = some o → F' a = some o) (h : SqT K F a xs) : SqT K F' a xs := by
  rcases h with (h | ⟨o, h⟩) | h
  · exact .inl (.inl (f _ _ h))
  · exact .inl (.inr ⟨o, f _ _ h⟩)
  · exact .inr h
theorem SqL.le {K : PySem.W.Frag} {F F' : Hp} {a : Addr} {xs : List V} (f : ∀ a o, F a = some o → F' a = some o) (h : SqL K F a xs) : SqL K F' a xs := by
  rcases h with (h | ⟨o, h⟩) | h
  · exact .inl (.inl (f _ _ h))
  · exact .inl (.inr ⟨o, f _ _ h⟩)
  · exact .inr h
mutual
theorem RV.le {K : PySem.W.Frag} {w w' : Wd} (l : w.le w') : ∀ (d : D) (v : V), RV K w d v → RV K w' d v
  | .non, v, h => h
  | .bl b, v, h => h
  | .int i, v, h => h
  | .str x, v, h => h
  | .tup ds, v, h => by
    obtain ⟨a, vs, e, q, z, r⟩ := h
    exact ⟨a, vs, e, SqT.le l.2 q, z, RVs.le l ds vs r⟩
  | .lst ds, v, h => by
    obtain ⟨a, vs, e, q, z, r⟩ := h
    exact ⟨a, vs, e, l.2 _ _ q, z, RVs.le l ds vs r⟩
  | .arg ds, v, h => by
    obtain ⟨a, vs, e, q, z, r⟩ := h
    exact ⟨a, vs, e, SqL.le l.2 q, z, RVs.le l ds vs r⟩
  | .ref n, v, h => by
    obtain ⟨a, e, q⟩ := h
    obtain ⟨⟨r, e'⟩, _⟩ := l
    refine ⟨a, e, ?_⟩
    rw [e', List.getElem?_append_left (List.getElem?_eq_some_iff.mp q).1]
    exact q
  | .ty n, v, h => h
  | .edict, v, h => by
    obtain ⟨a, e, q⟩ := h
    exact ⟨a, e, l.2 _ _ q⟩
  | .rpr d, v, h => h
theorem RVs.le {K : PySem.W.Frag} {w w' : Wd} (l : w.le w') : ∀ (ds : List D) (vs : List V), RVs K w ds vs → RVs K w' ds vs
  | [], vs, h => h
  | d :: ds, vs, h => by
    obtain ⟨v, vs', e, r, rs⟩ := h
    exact ⟨v, vs', e, RV.le l d v r, RVs.le l ds vs' rs⟩
end
theorem RVs.length {K : PySem.W.Frag} {w : Wd} : ∀ {ds : List D} {vs : List V}, RVs K w ds vs → vs.length = ds.length
  | [], vs, h => by cases (show vs = [] from h); rfl
  | d :: ds, vs, h => by
    obtain ⟨v, vs', rfl, _, rs⟩ := h
    simp [RVs.length rs]
theorem RVs.get {K : PySem.W.Frag} {w : Wd} : ∀ {ds : List D} {vs : List V} {i : Nat} {v : V}, RVs K w ds vs → vs[i]? = some v → ∃ d, ds[i]? = some d ∧ RV K w d v
  | [], vs, i, v, h, e => by cases (show vs = [] from h); simp at e
  | d :: ds, vs, 0, v, h, e => by
    obtain ⟨v', vs', rfl, r, rs⟩ := h
    simp at e; subst e
    exact ⟨d, rfl, r⟩
  | d :: ds, vs, i + 1, v, h, e => by
    obtain ⟨v', vs', rfl, r, rs⟩ := h
    simpa using RVs.get rs (by simpa using e)
theorem RVs.get' {K : PySem.W.Frag} {w : Wd} : ∀ {ds : List D} {vs : List V} {i : Nat} {d : D}, RVs K w ds vs → ds[i]? = some d → ∃ v, vs[i]? = some v ∧ RV K w d v
  | [], vs, i, v, h, e => by simp at e
  | d :: ds, vs, 0, v, h, e => by
    obtain ⟨v', vs', rfl, r, rs⟩ := h
    simp at e; subst e
    exact ⟨v', rfl, r⟩
  | d :: ds, vs, i + 1, v, h, e => by
    obtain ⟨v', vs', rfl, r, rs⟩ := h
    simpa using RVs.get' rs (by simpa using e)
theorem RVs.append {K : PySem.W.Frag} {w : Wd} : ∀ {ds es : List D} {vs us : List V}, RVs K w ds vs → RVs K w es us → RVs K w (ds ++ es) (vs ++ us)
  | [], es, vs, us, h, k => by cases (show vs = [] from h); exact k
  | d :: ds, es, vs, us, h, k => by
    obtain ⟨v, vs', rfl, r, rs⟩ := h
    exact ⟨v, vs' ++ us, rfl, r, RVs.append rs k⟩
theorem RVs.drop {K : PySem.W.Frag} {w : Wd} : ∀ {ds : List D} {vs : List V} (n : Nat), RVs K w ds vs → RVs K w (ds.drop n) (vs.drop n)
  | ds, vs, 0, h => h
  | [], vs, n + 1, h => by cases (show vs = [] from h); rfl
  | d :: ds, vs, n + 1, h => by
    obtain ⟨v, vs', rfl, r, rs⟩ := h
    exact RVs.drop n rs
theorem RVs.take {K : PySem.W.Frag} {w : Wd} : ∀ {ds : List D} {vs : List V} (n : Nat), RVs K w ds vs → RVs K w (ds.take n) (vs.take n)
  | ds, vs, 0, h => by simp [RVs]
  | [], vs, n + 1, h => by cases (show vs = [] from h); rfl
  | d :: ds, vs, n + 1, h => by
    obtain ⟨v, vs', rfl, r, rs⟩ := h
    exact ⟨v, vs'.take n, rfl, r, RVs.take n rs⟩
theorem RVs.reverse {K : PySem.W.Frag} {w : Wd} : ∀ {ds : List D} {vs : List V}, RVs K w ds vs → RVs K w ds.reverse vs.reverse
  | [], vs, h => by cases (show vs = [] from h); rfl
  | d :: ds, vs, h => by
    obtain ⟨v, vs', rfl, r, rs⟩ := h
    rw [List.reverse_cons, List.reverse_cons]
    exact RVs.append (RVs.reverse rs) ⟨v, [], rfl, r, rfl⟩
theorem RVs.set {K : PySem.W.Frag} {w : Wd} {d : D} {v : V} (r : RV K w d v) : ∀ {ds : List D} {vs : List V} (i : Nat), RVs K w ds vs → RVs K w (ds.set i d) (vs.set i v)
  | [], vs, i, h => by cases (show vs = [] from h); rfl
  | e :: ds, vs, 0, h => by
    obtain ⟨v', vs', rfl, _, rs⟩ := h
    exact ⟨v, vs', rfl, r, rs⟩
  | e :: ds, vs, i + 1, h => by
    obtain ⟨v', vs', rfl, r', rs⟩ := h
    exact ⟨v', vs'.set i v, rfl, r', RVs.set r i rs⟩

/-- an exception that is held: its class and its dict -/
def exV (a : Addr) (cls : Value) (d : Option Addr) : HO := .ext fun h => ∃ (oe : Obj) (vs : Array Value), h.get? a = some oe ∧ Zc cls d oe ∧ oe.data = .fields vs
/-! ### the heap of mutable objects is held -/
def OR (K : PySem.W.Frag) (w : Wd) (H : Hp) (a : Addr) : O → Prop
  | .lst ds => ∃ vs, H a = some (.lst vs) ∧ ds.length ≤ sizeLine ∧ RVs K w ds vs
  | .err c d => ∃ (C da : Addr) (u : V), PySem.W.nsIn K mainGlobals c = some (some (.ref C)) ∧ H a = some (exV a (.ref C) (some da)) ∧ w.F da = some (.xd [("value", u)]) ∧ RV K w d u
  | .tab x q => ∃ (c : Addr) (ps : Array Value), PySem.W.tabIn K x = some (c, a) ∧ H a = some (.tbl ps) ∧ TriplesOk ps.toList ∧ ∀ (pos : Pos) (cv : Value), codeAmong pos ps.toList = some cv → ∃ c', cv = .ref c' ∧ w.F c' = some (LamX.CodeO c' q)
  | .dead => True
def O.live : O → Bool
  | .dead => false
  | _ => true
structure Sim (K : PySem.W.Frag) (w : Wd) (h : Hc) (H : Hp) : Prop where
  len : w.ρ.length = h.length
  fx : ∀ a o, w.F a = some o → H a = some o
  ob : ∀ (i : Nat) (o : O) (a : Addr), h[i]? = some o → w.ρ[i]? = some a → OR K w H a o
  nf : ∀ (i : Nat) (o : O) (a : Addr), h[i]? = some o → w.ρ[i]? = some a → o.live = true → w.F a = none
  inj : ∀ (i j : Nat) (o o' : O) (a : Addr), h[i]? = some o → h[j]? = some o' → o.live = true → o'.live = true → w.ρ[i]? = some a → w.ρ[j]? = some a → i = j
def SimL (K : PySem.W.Frag) (w : Wd) (l : L) (σ : St) : Prop := l.length = σ.length ∧ ∀ (i : Nat) (d : D), l[i]? = some (some d) → ∃ v, σ[i]? = some (some v) ∧ RV K w d v
theorem SimL.le {K : PySem.W.Frag} {w w' : Wd} {l : L} {σ : St} (x : w.le w') (s : SimL K w l σ) : SimL K w' l σ :=
  ⟨s.1, fun i d e => let ⟨v, q, r⟩ := s.2 i d e; ⟨v, q, r.le x⟩⟩
theorem OR.le {K : PySem.W.Frag} {w w' : Wd} {H : Hp} {a : Addr} {o : O} (x : w.le w') (s : OR K w H a o) : OR K w' H a o := by
  cases o with
  | lst ds =>
    obtain ⟨vs, e, z, r⟩ := s
    exact ⟨vs, e, z, r.le x⟩
  | err c d =>
    obtain ⟨C, da, u, e1, e2, e3, r⟩ := s
    exact ⟨C, da, u, e1, e2, x.2 _ _ e3, r.le x⟩
  | tab y q =>
    obtain ⟨c, ps, e1, e2, e3, r⟩ := s
    exact ⟨c, ps, e1, e2, e3, fun pos cv e => let ⟨c', z, f⟩ := r pos cv e; ⟨c', z, x.2 _ _ f⟩⟩
  | dead => trivial
theorem OR.keep {K : PySem.W.Frag} {w : Wd} {H H' : Hp} {a : Addr} {o : O} (e : H' a = H a) (s : OR K w H a o) : OR K w H' a o := by
  cases o with
  | lst ds =>
    obtain ⟨vs, e', z, r⟩ := s
    exact ⟨vs, e.trans e', z, r⟩
  | err c d =>
    obtain ⟨C, da, u, e1, e2, e3, r⟩ := s
    exact ⟨C, da, u, e1, e.trans e2, e3, r⟩
  | tab y q =>
    obtain ⟨c, ps, e1, e2, e3, r⟩ := s
    exact ⟨c, ps, e1, e.trans e2, e3, r⟩
  | dead => trivial
theorem OR.some {K : PySem.W.Frag} {w : Wd} {H : Hp} {a : Addr} {o : O} (s : OR K w H a o) (l : o.live = true) : ∃ u, H a = some u := by
  cases o with
  | lst ds => obtain ⟨vs, e, _⟩ := s; exact ⟨_, e⟩
  | err c d => obtain ⟨C, da, u, e1, e2, _⟩ := s; exact ⟨_, e2⟩
  | tab x q => obtain ⟨c, ps, e1, e2, _⟩ := s; exact ⟨_, e2⟩
  | dead => cases l

/-- the object at a is none of ours -/
def Out (w : Wd) (h : Hc) (a : Addr) : Prop := w.F a = none ∧ ∀ (i : Nat) (o : O), h[i]? = some o → o.live = true → w.ρ[i]? ≠ some a
/-- what is none of ours stays -/
def Keep (w : Wd) (h : Hc) (H : Hp) (w' : Wd) (h' : Hc) (H' : Hp) : Prop := ∀ a o, H a = some o → Out w h a → H' a = some o ∧ Out w' h' a
theorem Keep.refl (w : Wd) (h : Hc) (H : Hp) : Keep w h H w h H := fun _ _ e o => ⟨e, o⟩
theorem Keep.trans {w w1 w2 : Wd} {h h1 h2 : Hc} {H H1 H2 : Hp} (x : Keep w h H w1 h1 H1) (y : Keep w1 h1 H1 w2 h2 H2) : Keep w h H w2 h2 H2 := fun a o e q =>
  let ⟨e1, q1⟩ := x a o e q
  y a o e1 q1
theorem Sim.out {K : PySem.W.Frag} {w : Wd} {h : Hc} {H : Hp} {a : Addr} (s : Sim K w h H) (n : H a = none) : Out w h a := by
  refine ⟨?_, fun i o e l q => ?_⟩
  · cases e : w.F a with
    | none => rfl
    | some u => rw [s.fx a u e] at n; cases n
  · obtain ⟨u, hu⟩ := (s.ob i o a e q).some l
    rw [n] at hu; cases hu
/-- an object that is none of ours is laid or written -/
theorem Sim.extra {K : PySem.W.Frag} {w : Wd} {h : Hc} {H : Hp} {a : Addr} {u : HO} (s : Sim K w h H) (q : Out w h a) : Sim K w h (upd H a u) := by
  refine ⟨s.len, fun b o e => ?_, fun i o b e1 e2 => ?_, s.nf, s.inj⟩
  · have hb : b ≠ a := fun z => by rw [z, q.1] at e; cases e
    rw [upd_ne hb]; exact s.fx b o e
  · have z := s.ob i o b e1 e2
    cases hl : o.live with
    | false => cases o <;> first | trivial | cases hl
    | true => exact z.keep (upd_ne fun r => q.2 i o e1 hl (by rw [← r]; exact e2))
/-- an object that is none of ours becomes fixed -/
theorem Sim.own {K : PySem.W.Frag} {w : Wd} {h : Hc} {H : Hp} {a : Addr} {u : HO} (s : Sim K w h H) (q : Out w h a) (e : H a = some u) : Sim K ⟨w.ρ, upd w.F a u⟩ h H ∧ w.le ⟨w.ρ, upd w.F a u⟩ := by
  have le : w.le ⟨w.ρ, upd w.F a u⟩ := ⟨⟨[], by simp⟩, fun b o z => by
    show upd w.F a u b = some o
    rw [upd_ne (fun r => by rw [r, q.1] at z; cases z)]; exact z⟩
  refine ⟨⟨s.len, fun b o z => ?_, fun i o b e1 e2 => (s.ob i o b e1 e2).le le, fun i o b e1 e2 l => ?_, s.inj⟩, le⟩
  · by_cases hb : b = a
    · subst hb
      have z : upd w.F b u b = some o := z
      rw [upd_same] at z
      rw [← z]; exact e
    · have z : upd w.F a u b = some o := z
      rw [upd_ne hb] at z
      exact s.fx b o z
  · show upd w.F a u b = none
    rw [upd_ne (fun r => q.2 i o e1 l (by rw [← r]; exact e2))]
    exact s.nf i o b e1 e2 l
/-- a new fixed object -/
theorem Sim.fix {K : PySem.W.Frag} {w : Wd} {h : Hc} {H : Hp} {p : Addr} (o : HO) (s : Sim K w h H) (hp : H p = none) :
    Sim K ⟨w.ρ, upd w.F p o⟩ h (upd H p o) ∧ w.le ⟨w.ρ, upd w.F p o⟩ ∧ Keep w h H ⟨w.ρ, upd w.F p o⟩ h (upd H p o) := by
  have q := s.out hp
  obtain ⟨s2, le⟩ := (s.extra (u := o) q).own q upd_same
  refine ⟨s2, le, fun a u e z => ?_⟩
  have ne : a ≠ p := ne_of_none e hp
  exact ⟨by rw [upd_ne ne]; exact e, by show upd w.F p o a = none; rw [upd_ne ne]; exact z.1, z.2⟩
/-- a new mutable object -/
theorem Sim.new {K : PySem.W.Frag} {w : Wd} {h : Hc} {H : Hp} {p : Addr} {o : HO} {ob : O} (s : Sim K w h H) (hp : H p = none)
    (hob : OR K ⟨w.ρ ++ [p], w.F⟩ (upd H p o) p ob) : Sim K ⟨w.ρ ++ [p], w.F⟩ (h ++ [ob]) (upd H p o) ∧ w.le ⟨w.ρ ++ [p], w.F⟩ ∧ Keep w h H ⟨w.ρ ++ [p], w.F⟩ (h ++ [ob]) (upd H p o) ∧ (w.ρ ++ [p])[h.length]? = some p := by
  have ne : ∀ a u, H a = some u → a ≠ p := fun a u e => ne_of_none e hp
  have le : w.le ⟨w.ρ ++ [p], w.F⟩ := ⟨⟨[p], rfl⟩, fun a u e => e⟩
  have sz := s.len
  have old : ∀ (i : Nat) (ob' : O) (a : Addr), (h ++ [ob])[i]? = some ob' → (w.ρ ++ [p])[i]? = some a → (i < h.length ∧ h[i]? = some ob' ∧ w.ρ[i]? = some a) ∨ (i = h.length ∧ ob' = ob ∧ a = p) := fun i ob' a e1 e2 => by
    by_cases hi : i < h.length
    · rw [List.getElem?_append_left hi] at e1
      rw [List.getElem?_append_left (by omega)] at e2
      exact .inl ⟨hi, e1, e2⟩
    · have hlt : i < (h ++ [ob]).length := (List.getElem?_eq_some_iff.mp e1).1
      have hi' : i = h.length := by simp at hlt; omega
      subst hi'
      rw [List.getElem?_append_right (Nat.le_refl _)] at e1
      rw [List.getElem?_append_right (by omega)] at e2
      simp at e1
      rw [sz] at e2
      simp at e2
      exact .inr ⟨rfl, e1.symm, e2.symm⟩
  refine ⟨⟨by simp [sz], fun a u e => ?_, fun i ob' a e1 e2 => ?_, fun i ob' a e1 e2 l => ?_, fun i j o1 o2 a e1 e2 l1 l2 r1 r2 => ?_⟩, le, fun a u e z => ⟨by rw [upd_ne (ne a u e)]; exact e, z.1, fun i o' e1 l e2 => ?_⟩, ?_⟩
  · have := s.fx a u e
    rw [upd_ne (ne a u this)]; exact this
  · rcases old i ob' a e1 e2 with ⟨hi, q1, q2⟩ | ⟨rfl, rfl, rfl⟩
    · have q := s.ob i ob' a q1 q2
      cases hl : ob'.live with
      | false => cases ob' <;> first | trivial | cases hl
      | true =>
        obtain ⟨u, hu⟩ := q.some hl
        exact (q.keep (upd_ne (ne a u hu))).le le
    · exact hob
  · rcases old i ob' a e1 e2 with ⟨hi, q1, q2⟩ | ⟨rfl, rfl, rfl⟩
    · exact s.nf i ob' a q1 q2 l
    · exact (s.out hp).1
  · rcases old i o1 a e1 r1 with ⟨hi, q1, q2⟩ | ⟨ei, rfl, ea⟩
    · rcases old j o2 a e2 r2 with ⟨hj, q3, q4⟩ | ⟨ej, rfl, ea⟩
      · exact s.inj i j o1 o2 a q1 q3 l1 l2 q2 q4
      · obtain ⟨u, hu⟩ := (s.ob i o1 a q1 q2).some l1
        exact absurd ea (ne a u hu)
    · rcases old j o2 a e2 r2 with ⟨hj, q3, q4⟩ | ⟨ej, rfl, _⟩
      · obtain ⟨u, hu⟩ := (s.ob j o2 a q3 q4).some l2
        exact absurd ea (ne a u hu)
      · rw [ei, ej]
  · rcases old i o' a e1 e2 with ⟨hi, q1, q2⟩ | ⟨_, _, ea⟩
    · exact z.2 i o' q1 l q2
    · exact ne a u e ea
  · rw [List.getElem?_append_right (by omega), sz]; simp
/-- a mutable object written -/
theorem Sim.write {K : PySem.W.Frag} {w : Wd} {h : Hc} {H : Hp} {i : Nat} {a : Addr} {o : HO} {ob ob' : O} (s : Sim K w h H) (hi : h[i]? = some ob) (hl : ob.live = true) (ha : w.ρ[i]? = some a) (hl' : ob'.live = true)
    (hob : OR K w (upd H a o) a ob') : Sim K w (h.set i ob') (upd H a o) ∧ Keep w h H w (h.set i ob') (upd H a o) := by
  have hlt : i < h.length := (List.getElem?_eq_some_iff.mp hi).1
  have fa : w.F a = none := s.nf i ob a hi ha hl
  have get : ∀ (j : Nat) (u : O), (h.set i ob')[j]? = some u → (j = i ∧ u = ob') ∨ (j ≠ i ∧ h[j]? = some u) := fun j u e => by
    by_cases hj : j = i
    · subst hj
      rw [List.getElem?_set_self hlt] at e
      exact .inl ⟨rfl, (Option.some.inj e).symm⟩
    · rw [List.getElem?_set_ne (Ne.symm hj)] at e
      exact .inr ⟨hj, e⟩
  refine ⟨⟨by rw [List.length_set]; exact s.len, fun b u e => ?_, fun j u b e1 e2 => ?_, fun j u b e1 e2 l => ?_, fun j k u v b e1 e2 l1 l2 r1 r2 => ?_⟩, fun b u e z => ⟨?_, z.1, fun j u' e1 l e2 => ?_⟩⟩
  · have hb : b ≠ a := fun z => by rw [z, fa] at e; cases e
    rw [upd_ne hb]; exact s.fx b u e
  · rcases get j u e1 with ⟨rfl, rfl⟩ | ⟨hj, q⟩
    · have : a = b := Option.some.inj (ha.symm.trans e2)
      subst this; exact hob
    · have q' := s.ob j u b q e2
      cases hlu : u.live with
      | false => cases u <;> first | trivial | cases hlu
      | true =>
        refine q'.keep (upd_ne fun z => hj ?_)
        subst z
        exact s.inj j i u ob b q hi hlu hl e2 ha
  · rcases get j u e1 with ⟨rfl, rfl⟩ | ⟨hj, q⟩
    · have : a = b := Option.some.inj (ha.symm.trans e2)
      subst this; exact fa
    · exact s.nf j u b q e2 l
  · rcases get j u e1 with ⟨rfl, rfl⟩ | ⟨hj, q⟩
    · rcases get k v e2 with ⟨rfl, rfl⟩ | ⟨hk, q'⟩
      · rfl
      · exact s.inj j k ob v b hi q' hl l2 r1 r2
    · rcases get k v e2 with ⟨rfl, rfl⟩ | ⟨hk, q'⟩
      · exact s.inj j k u ob b q hi l1 hl r1 r2
      · exact s.inj j k u v b q q' l1 l2 r1 r2
  · rw [upd_ne (fun r => z.2 i ob hi hl (by rw [r]; exact ha))]; exact e
  · rcases get j u' e1 with ⟨rfl, rfl⟩ | ⟨hj, q⟩
    · exact z.2 j ob hi hl e2
    · exact z.2 j u' q l e2
/-- a mutable list is fixed from now on -/
theorem Sim.freeze {K : PySem.W.Frag} {w : Wd} {h : Hc} {H : Hp} {i : Nat} {a : Addr} {ds : List D} (s : Sim K w h H) (hi : h[i]? = some (.lst ds)) (ha : w.ρ[i]? = some a) :
    ∃ w', w.le w' ∧ Sim K w' (h.set i .dead) H ∧ Keep w h H w' (h.set i .dead) H ∧ RV K w' (.lst ds) (.ref a) := by
  obtain ⟨vs, ev, z, rv⟩ := s.ob i _ a hi ha
  have fa : w.F a = none := s.nf i _ a hi ha rfl
  have le : w.le ⟨w.ρ, upd w.F a (.lst vs)⟩ := ⟨⟨[], by simp⟩, fun b u e => by
    show upd w.F a (.lst vs) b = some u
    rw [upd_ne (fun q => by rw [q, fa] at e; cases e)]; exact e⟩
  have hlt : i < h.length := (List.getElem?_eq_some_iff.mp hi).1
  have get : ∀ (j : Nat) (u : O), (h.set i .dead)[j]? = some u → u.live = true → j ≠ i ∧ h[j]? = some u := fun j u e l => by
    by_cases hj : j = i
    · subst hj
      rw [List.getElem?_set_self hlt] at e
      cases e; cases l
    · rw [List.getElem?_set_ne (Ne.symm hj)] at e
      exact ⟨hj, e⟩
  refine ⟨⟨w.ρ, upd w.F a (.lst vs)⟩, le, ⟨by rw [List.length_set]; exact s.len, fun b u e => ?_, fun j u b e1 e2 => ?_, fun j u b e1 e2 l => ?_, fun j k u v b e1 e2 l1 l2 r1 r2 => ?_⟩, fun b u e q => ⟨e, ?_, fun j u' e1 l e2 => ?_⟩, ?_⟩
  · by_cases hb : b = a
    · subst hb
      have e : upd w.F b (.lst vs) b = some u := e
      rw [upd_same] at e
      rw [← e]; exact ev
    · have e : upd w.F a (.lst vs) b = some u := e
      rw [upd_ne hb] at e
      exact s.fx b u e
  · cases hl : u.live with
    | false => cases u <;> first | trivial | cases hl
    | true =>
      obtain ⟨_, q⟩ := get j u e1 hl
      exact (s.ob j u b q e2).le le
  · obtain ⟨hj, q⟩ := get j u e1 l
    show upd w.F a (.lst vs) b = none
    rw [upd_ne (fun z => hj (by subst z; exact s.inj j i u _ b q hi l rfl e2 ha))]
    exact s.nf j u b q e2 l
  · exact s.inj j k u v b (get j u e1 l1).2 (get k v e2 l2).2 l1 l2 r1 r2
  · show upd w.F a (.lst vs) b = none
    rw [upd_ne (fun r => q.2 i _ hi rfl (by rw [r]; exact ha))]; exact q.1
  · exact q.2 j u' (get j u' e1 l).2 l e2
  · exact ⟨a, vs, rfl, upd_same, z, rv.le le⟩

/-! ### readings by a function into M -/
section
variable {α β α' β' : Type}
def XV (K : PySem.W.Frag) (mg : Str → Option Value) (w : Wd) (H : Hp) (c : Str) (d : D) (cls : Value) (dd : Option Addr) : Prop :=
  PySem.W.nsIn K mainGlobals c = some (some cls) ∧ ∃ da v, dd = some da ∧ w.F da = some (.xd [("value", v)]) ∧ RV K w d v
/-- what is wanted behind a result -/
def Res (K : PySem.W.Frag) (mg : Str → Option Value) (rep : Wd → α → β → Prop) (w : Wd) (h : Hc) (H : Hp) (σ : St) (W : Value → Option Addr → St → Hp → Prop) (Q : β → Hp → Prop) : R α → Prop
  | .ok d h' => ∀ w' H' v, w.le w' → Sim K w' h' H' → Keep w h H w' h' H' → rep w' d v → Q v H'
  | .exc c d h' => ∀ w' H' cls dd, w.le w' → Sim K w' h' H' → Keep w h H w' h' H' → XV K mg w' H' c d cls dd → W cls dd σ H'
  | .bad => False
theorem Res.le {K : PySem.W.Frag} {mg : Str → Option Value} {rep : Wd → α → β → Prop} {w w1 : Wd} {h h1 : Hc} {H H1 : Hp} {σ : St} {W : Value → Option Addr → St → Hp → Prop} {Q : β → Hp → Prop} {r : R α} (l : w.le w1) (k : Keep w h H w1 h1 H1)
    (x : Res K mg rep w h H σ W Q r) : Res K mg rep w1 h1 H1 σ W Q r := by
  cases r with
  | ok d h' => exact fun w2 H' v l2 s k2 q => x w2 H' v (l.trans l2) s (k.trans k2) q
  | exc c d h' => exact fun w2 H' cls dd l2 s k2 q => x w2 H' cls dd (l.trans l2) s (k.trans k2) q
  | bad => exact x
def tG (K : PySem.W.Frag) (mg : Str → Option Value) (W : Value → Option Addr → St → Hp → Prop) (rep : Wd → α → β → Prop) (m : L → M α) : St → Hp → (β → Hp → Prop) → Prop := fun σ H Q =>
  ∃ w l h, Sim K w h H ∧ SimL K w l σ ∧ Res K mg rep w h H σ W Q (m l h)
theorem tG_mono {K : PySem.W.Frag} {mg : Str → Option Value} {W : Value → Option Addr → St → Hp → Prop} {rep : Wd → α → β → Prop} {m : L → M α} {σ : St} {H : Hp} {Q Q' : β → Hp → Prop} (q : ∀ b H, Q b H → Q' b H)
    (x : tG K mg W rep m σ H Q) : tG K mg W rep m σ H Q' := by
  obtain ⟨w, l, h, s, sl, r⟩ := x
  refine ⟨w, l, h, s, sl, ?_⟩
  cases e : m l h with
  | ok d h' => rw [e] at r; exact fun w2 H' v l2 s k q' => q _ _ (r w2 H' v l2 s k q')
  | exc c d h' => rw [e] at r; exact r
  | bad => rw [e] at r; exact r
theorem tG_bind {K : PySem.W.Frag} {mg : Str → Option Value} {W : Value → Option Addr → St → Hp → Prop} {repA : Wd → α → β → Prop} {repB : Wd → α' → β' → Prop} {m : L → M α} {f : α → M α'} {w : Wd} {l : L} {h : Hc} {σ : St} {H : Hp} {Q : β' → Hp → Prop}
    (s : Sim K w h H) (sl : SimL K w l σ) (r : Res K mg repB w h H σ W Q (M.bind (m l) f h)) :
    tG K mg W repA m σ H (fun x H1 => ∃ w1 a h1, w.le w1 ∧ Sim K w1 h1 H1 ∧ Keep w h H w1 h1 H1 ∧ repA w1 a x ∧ Res K mg repB w1 h1 H1 σ W Q (f a h1)) := by
  refine ⟨w, l, h, s, sl, ?_⟩
  unfold M.bind at r
  cases e : m l h with
  | ok d h' => rw [e] at r; exact fun w2 H' v l2 s k q' => ⟨w2, d, h', l2, s, k, q', r.le l2 k⟩
  | exc c d h' => rw [e] at r; exact r
  | bad => rw [e] at r; exact r
/-- nothing happens -/
theorem Res.stay {K : PySem.W.Frag} {mg : Str → Option Value} {rep : Wd → α → β → Prop} {w : Wd} {h : Hc} {H : Hp} {σ : St} {W : Value → Option Addr → St → Hp → Prop} {Q : β → Hp → Prop} {a : α} {v : β} (x : Res K mg rep w h H σ W Q (.ok a h)) (s : Sim K w h H) (r : rep w a v) : Q v H :=
  x w H v w.le_refl s (Keep.refl w h H) r
/-- a new fixed object is the answer -/
theorem Res.fixed {K : PySem.W.Frag} {mg : Str → Option Value} {rep : Wd → α → β → Prop} {w : Wd} {h : Hc} {H : Hp} {σ : St} {W : Value → Option Addr → St → Hp → Prop} {Q : β → Hp → Prop} {a : α} {v : β} {p : Addr} {o : HO} (x : Res K mg rep w h H σ W Q (.ok a h)) (s : Sim K w h H) (hp : H p = none)
    (r : rep ⟨w.ρ, upd w.F p o⟩ a v) : Q v (upd H p o) :=
  let ⟨s2, l2, k2⟩ := s.fix o hp
  x _ _ v l2 s2 k2 r
end
abbrev WX' := Value → Option Addr → St → Hp → Prop
abbrev repB : Wd → Bool → Bool → Prop := fun _ a b => a = b
/-- an expression, a test, arguments -/
def ME (X : Cx) (W : WX') (e : Expr) (m : L → M D) : Prop := PE X e (tG X.K X.mg W (RV X.K) m)
def MT (X : Cx) (W : WX') (e : Expr) (m : L → M Bool) : Prop := PT X e (tG X.K X.mg W repB m)
def MW (X : Cx) (W : WX') (e : Expr) (m : L → M Bool) : Prop := PW X e (tG X.K X.mg W repB m)
def MA (X : Cx) (W : WX') (es : List Expr) (m : L → M (List D)) : Prop := PA X es (tG X.K X.mg W (RVs X.K) m)
theorem PE.weak {X : Cx} {e : Expr} {t t' : TE} (h : PE X e t) (k : ∀ σ H Q, t' σ H Q → t σ H Q) : PE X e t' := ⟨fun pins s σ H Q I q => h.run pins s σ H Q I (k σ H Q q)⟩
theorem PT.weak {X : Cx} {e : Expr} {t t' : TT} (h : PT X e t) (k : ∀ σ H Q, t' σ H Q → t σ H Q) : PT X e t' := ⟨fun pins s σ H Q I q => h.run pins s σ H Q I (k σ H Q q)⟩
theorem PW.weak {X : Cx} {e : Expr} {t t' : TT} (h : PW X e t) (k : ∀ σ H Q, t' σ H Q → t σ H Q) : PW X e t' := ⟨fun wh pins s σ H Q I q => h.run wh pins s σ H Q I (k σ H Q q)⟩
theorem PA.weak {X : Cx} {e : List Expr} {t t' : TA} (h : PA X e t) (k : ∀ σ H Q, t' σ H Q → t σ H Q) : PA X e t' := ⟨fun pos pins s σ H Q I q => h.run pos pins s σ H Q I (k σ H Q q)⟩
theorem PS.weak {X : Cx} {e : Stmt} {t t' : TS} (h : PS X e t) (k : ∀ D σ H, t' D σ H → t D σ H) : PS X e t' := ⟨fun pins s σ H D I q => h.run pins s σ H D I (k D σ H q)⟩
theorem PSs.weak {X : Cx} {e : List Stmt} {t t' : TS} (h : PSs X e t) (k : ∀ D σ H, t' D σ H → t D σ H) : PSs X e t' := ⟨fun pins s σ H D I q => h.run pins s σ H D I (k D σ H q)⟩
end Mz

namespace Mz
open PySem L2
section
variable {X : Cx} {W : WX'}

/-! ### names, constants -/
def getL (i : Nat) : L → M D := fun l h => match l[i]? with
  | some (some d) => .ok d h
  | _ => .bad
def cst (d : D) : L → M D := fun _ h => .ok d h
theorem me_of {e : Expr} {i : Nat} (p : PE X e (tVar i)) : ME X W e (getL i) := PE.weak p fun σ H Q ⟨w, l, h, s, sl, r⟩ => by
  unfold getL at r
  split at r
  · rename_i d e
    obtain ⟨v, q, rv⟩ := sl.2 i d e
    exact ⟨v, q, r.stay s rv⟩
  · exact r.elim
theorem me_var (i : Nat) {x : Str} {pos : Pos} (hN : X.N[i]? = some x := by rfl) (hv : Vis X.env.scope x := by first | exact Or.inl rfl | exact Or.inr (Or.inl rfl) | exact Or.inr (Or.inr rfl)) (hd : (x == ("__debug__" : Str)) = false := by decide)
    (hcd : (x == ("__classdict__" : Str)) = false := by decide) : ME X W (.Name x pos) (getL i) := me_of (pe_var hN hv hd hcd)
theorem me_cst {e : Expr} {v : V} {d : D} (p : PE X e (tC v)) (r : ∀ w, RV X.K w d v) : ME X W e (cst d) := PE.weak p fun σ H Q ⟨w, l, h, s, sl, q⟩ => q.stay s (r w)
theorem me_int {i : Int} {j pos} : ME X W (.Constant (.int i) j pos) (cst (.int i)) := me_cst pe_int fun _ => rfl
theorem me_bl {b : Bool} {j pos} : ME X W (.Constant (.bool b) j pos) (cst (.bl b)) := me_cst pe_bl fun _ => rfl
theorem me_non {j pos} : ME X W (.Constant .none j pos) (cst .non) := me_cst pe_non fun _ => rfl
theorem me_str (c : List Nat) {x : Str} {j pos} (e : x = cs c := by decide +kernel) (hc : (decide (c.length ≤ 1000) && c.all fun c => decide (c < 0x110000)) = true := by decide +kernel) : ME X W (.Constant (.str x) j pos) (cst (.str c)) :=
  me_cst pe_str fun _ => by
    simp only [Bool.and_eq_true, decide_eq_true_eq] at hc
    exact ⟨by rw [e], Nat.le_trans hc.1 (by rw [sizeLine_eq]; decide), hc.2⟩
/-- a module's constant -/
theorem me_glob (d : D) {x : Str} {v : V} {u : Value} {pos : Pos} (hg : Gl X x) (hm : X.mg x = some u) (r : RelV v u) (rd : ∀ w, RV X.K w d v) (hd : (x == ("__debug__" : Str)) = false := by decide) : ME X W (.Name x pos) (cst d) :=
  me_cst (pe_glob hg hm r hd) rd
/-- a built-in type as a value -/
theorem me_ty (T : String) {x : Str} {pos : Pos} (hg : Gl X x) (hm : X.mg x = none) (hv : bootBuiltins x = some (.type T)) (hn : x ≠ "__name__" := by decide) (hd : (x == ("__debug__" : Str)) = false := by decide) : ME X W (.Name x pos) (cst (.ty T)) :=
  me_cst (v := .ty T) (pe_bltn hg hm hv rfl hn hd) fun _ => rfl

/-! ### two-place operations -/
def rdo {α : Type} (o : Hc → Option α) : M α := fun h => match o h with
  | some a => .ok a h
  | none => .bad
/-- an operation on values that reads the heap and may make fixed objects -/
def OpM (X : Cx) (fs : Value → Value → Sem Value) (f : Hc → D → D → Option D) : Prop :=
  ∀ (w : Wd) (h : Hc) (dx dy d : D) (pins : List (Addr × Obj)) (s : Shared) (σ : St) (H : Hp) (x y : V) (v u : Value) (Q : VK), f h dx dy = some d → Sim X.K w h H → RV X.K w dx x → RV X.K w dy y →
    Inv X pins σ H s → RelV x v → RelV y u → (∀ w' H' z, w.le w' → Sim X.K w' h H' → Keep w h H w' h H' → RV X.K w' d z → Q z H') → wpAny (model X.prog X.w) X.A (fs v u) (EP X pins σ Q) X.xe s
def rOp (X : Cx) (f : Hc → D → D → Option D) : R2 := fun x y H Q => ∃ w h dx dy d, f h dx dy = some d ∧ Sim X.K w h H ∧ RV X.K w dx x ∧ RV X.K w dy y ∧ ∀ w' H' z, w.le w' → Sim X.K w' h H' → Keep w h H w' h H' → RV X.K w' d z → Q z H'
theorem OpM.rule {fs : Value → Value → Sem Value} {f : Hc → D → D → Option D} (o : OpM X fs f) : OpR X fs (rOp X f) := by
  intro pins s σ H x y v u Q I rx ry ⟨w, h, dx, dy, d, e, si, r1, r2, k⟩
  exact o w h dx dy d pins s σ H x y v u Q e si r1 r2 I rx ry k
/-- from a rule of HandS -/
theorem OpM.of {fs : Value → Value → Sem Value} {f : Hc → D → D → Option D} {r : R2} (o : OpR X fs r) (k : ∀ (w : Wd) (h : Hc) (dx dy d : D) (H : Hp) (x y : V) (Q : VK), f h dx dy = some d → Sim X.K w h H → RV X.K w dx x → RV X.K w dy y →
    (∀ w' H' z, w.le w' → Sim X.K w' h H' → Keep w h H w' h H' → RV X.K w' d z → Q z H') → r x y H Q) : OpM X fs f :=
  fun w h dx dy d pins s σ H x y v u Q e si r1 r2 I rx ry q => o pins s σ H x y v u Q I rx ry (k w h dx dy d H x y Q e si r1 r2 q)
/-- one or the other -/
theorem OpM.or {fs : Value → Value → Sem Value} {f g : Hc → D → D → Option D} (a : OpM X fs f) (b : OpM X fs g) : OpM X fs (fun h x y => (f h x y).or (g h x y)) :=
  fun w h dx dy d pins s σ H x y v u Q e si r1 r2 I rx ry q => by
    have e : (f h dx dy).or (g h dx dy) = some d := e
    cases e1 : f h dx dy with
    | some z => rw [e1] at e; cases e; exact a w h dx dy _ pins s σ H x y v u Q e1 si r1 r2 I rx ry q
    | none => rw [e1] at e; exact b w h dx dy _ pins s σ H x y v u Q e si r1 r2 I rx ry q
def op2 (f : Hc → D → D → Option D) (ma mb : L → M D) : L → M D := fun l => (ma l).bind fun x => (mb l).bind fun y => rdo fun h => f h x y
variable {a b c : Expr} {ma mb mc : L → M D} {pos : Pos}
theorem Res.rdo {α β : Type} {K : PySem.W.Frag} {mg : Str → Option Value} {rep : Wd → α → β → Prop} {w : Wd} {h : Hc} {H : Hp} {σ : St} {W : WX'} {Q : β → Hp → Prop} {o : Hc → Option α} (r : Res K mg rep w h H σ W Q (rdo o h)) :
    ∃ d, o h = some d ∧ ∀ w' H' v, w.le w' → Sim K w' h H' → Keep w h H w' h H' → rep w' d v → Q v H' := by
  unfold Mz.rdo at r
  cases e : o h with
  | none => rw [e] at r; exact r.elim
  | some d => rw [e] at r; exact ⟨d, rfl, r⟩
theorem Res.rdo_bind {α β α' : Type} {K : PySem.W.Frag} {mg : Str → Option Value} {rep : Wd → α → β → Prop} {w : Wd} {h : Hc} {H : Hp} {σ : St} {W : WX'} {Q : β → Hp → Prop} {o : Hc → Option α'} {f : α' → M α} (r : Res K mg rep w h H σ W Q (M.bind (Mz.rdo o) f h)) :
    ∃ d, o h = some d ∧ Res K mg rep w h H σ W Q (f d h) := by
  unfold M.bind Mz.rdo at r
  cases e : o h with
  | none => rw [e] at r; exact r.elim
  | some d => rw [e] at r; exact ⟨d, rfl, r⟩
theorem op2_read {f : Hc → D → D → Option D} {σ : St} {H : Hp} {Q : VK} (t : tG X.K X.mg W (RV X.K) (op2 f ma mb) σ H Q) :
    tG X.K X.mg W (RV X.K) ma σ H fun x H1 => tG X.K X.mg W (RV X.K) mb σ H1 fun y H2 => rOp X f x y H2 Q := by
  obtain ⟨w, l, h, s, sl, r⟩ := t
  refine tG_mono (fun x H1 ⟨w1, dx, h1, l1, s1, k1, rx, r1⟩ => ?_) (tG_bind s sl r)
  refine tG_mono (fun y H2 ⟨w2, dy, h2, l2, s2, k2, ry, r2⟩ => ?_) (tG_bind s1 (sl.le l1) r1)
  obtain ⟨d, e, k⟩ := r2.rdo
  exact ⟨w2, h2, dx, dy, d, e, s2, rx.le l2, ry, k⟩
theorem me_op {op : Operator} {f : Hc → D → D → Option D} (ho : OpM X (binaryOp op) f) (ha : ME X W a ma) (hb : ME X W b mb) : ME X W (.BinOp a op b pos) (op2 f ma mb) :=
  PE.weak (pe_op ho.rule ha hb) fun σ H Q t => op2_read t
theorem me_cmp {op : CmpOp} {f : Hc → D → D → Option D} (ho : OpM X (compareOp op) f) (ha : ME X W a ma) (hb : ME X W b mb) (hm : behindInMarks op b = false) : ME X W (.Compare a [op] [b] pos) (op2 f ma mb) :=
  PE.weak (pe_cmpR ho.rule ha hb hm) fun σ H Q t => op2_read t

/-! ### truth -/
/-- the list that stands at n -/
def objL (h : Hc) (n : Nat) : Option (List D) := match h[n]? with
  | some (.lst x) => some x
  | _ => none
theorem objL_some {h : Hc} {n : Nat} {x : List D} (e : objL h n = some x) : h[n]? = some (.lst x) := by
  unfold objL at e
  split at e
  · rename_i y q
    cases e
    exact q
  · cases e
def truD (h : Hc) : D → Option Bool
  | .non => some false
  | .bl b => some b
  | .int i => some (i != 0)
  | .str x => some (!x.isEmpty)
  | .tup x => some (!x.isEmpty)
  | .lst x => some (!x.isEmpty)
  | .arg x => some (!x.isEmpty)
  | .ref n => (objL h n).map fun x => !x.isEmpty
  | .ty _ => none
  | .edict => none
  | .rpr _ => none
theorem RVs.isEmpty {K : PySem.W.Frag} {w : Wd} {ds : List D} {vs : List V} (r : RVs K w ds vs) : vs.isEmpty = ds.isEmpty := by
  have := r.length
  cases ds <;> cases vs <;> simp_all
theorem truD_ok {w : Wd} {h : Hc} {H : Hp} {d : D} {x : V} {k : Bool} (s : Sim X.K w h H) (r : RV X.K w d x) (e : truD h d = some k) : TruV X.K x H k := by
  cases d with
  | non => cases (show x = _ from r); cases e; rfl
  | bl b => cases (show x = _ from r); cases e; rfl
  | int i => cases (show x = _ from r); cases e; rfl
  | str c =>
    obtain ⟨rfl, z, _⟩ := r
    cases e
    refine ⟨by rw [cs_length]; exact z, ?_⟩
    rw [cs_length]
    cases c with
    | nil => rfl
    | cons a r => simp; omega
  | tup ds =>
    obtain ⟨a, vs, rfl, q, z, rv⟩ := r
    cases e
    exact .inr (.inl ⟨vs, SqT.le s.fx q, by rw [rv.isEmpty]⟩)
  | lst ds =>
    obtain ⟨a, vs, rfl, q, z, rv⟩ := r
    cases e
    exact .inl ⟨vs, SqL.of (s.fx _ _ q), by rw [rv.isEmpty]⟩
  | arg ds =>
    obtain ⟨a, vs, rfl, q, z, rv⟩ := r
    cases e
    exact .inl ⟨vs, SqL.le s.fx q, by rw [rv.isEmpty]⟩
  | ref n =>
    obtain ⟨a, rfl, q⟩ := r
    obtain ⟨ds, e1, e2⟩ := Option.map_eq_some_iff.mp (show (objL h n).map (fun x => !x.isEmpty) = some k from e)
    obtain ⟨vs, ev, z, rv⟩ := s.ob n _ a (objL_some e1) q
    exact .inl ⟨vs, SqL.of ev, by rw [rv.isEmpty]; exact e2.symm⟩
  | ty n => cases e
  | edict => cases e
  | rpr _ => cases e
def toT (m : L → M D) : L → M Bool := fun l => (m l).bind fun x => rdo fun h => truD h x
/-- an expression as a test -/
theorem mt_val (ha : ME X W a ma) (he : ∀ whole, isTrue a X.env whole = (do let v ← whole; standAt a.pos; holding [v] (truthy v)) := by intro _; rfl) : MT X W a (toT ma) :=
  PT.weak (pt_truth ha he) fun σ H Q ⟨w, l, h, s, sl, r⟩ => by
    refine tG_mono (fun x H1 ⟨w1, dx, h1, l1, s1, k1, rx, r1⟩ => ?_) (tG_bind s sl r)
    obtain ⟨d, e, k⟩ := r1.rdo
    exact ⟨d, truD_ok s1 rx e, k w1 H1 d w1.le_refl s1 (Keep.refl _ _ _) rfl⟩
def asB (o : D) : Option Bool := match o with
  | .bl b => some b
  | _ => none
def toTB (m : L → M D) : L → M Bool := fun l => (m l).bind fun x => rdo fun _ => asB x
theorem mt_cmp {op : CmpOp} {f : Hc → D → D → Option D} (ho : OpM X (compareOp op) f) (ha : ME X W a ma) (hb : ME X W b mb) (hm : behindInMarks op b = false) : MT X W (.Compare a [op] [b] pos) (toTB (op2 f ma mb)) :=
  PT.weak (pt_cmpR ho.rule ha hb hm) fun σ H Q ⟨w, l, h, s, sl, r⟩ => by
    have t : tG X.K X.mg W (RV X.K) (op2 f ma mb) σ H (fun x H' => ∃ k, x = .bl k ∧ Q k H') := by
      refine tG_mono (fun x H1 ⟨w1, dx, h1, l1, s1, k1, rx, r1⟩ => ?_) (tG_bind s sl r)
      obtain ⟨d, e, k⟩ := r1.rdo
      unfold asB at e
      split at e
      · rename_i b
        cases e
        exact ⟨d, rx, k w1 H1 d w1.le_refl s1 (Keep.refl _ _ _) rfl⟩
      · cases e
    exact op2_read t
/-! ### chains -/
def op2c (f g : Hc → D → D → Option D) (ma mb mc : L → M D) : L → M D := fun l => (ma l).bind fun x => (mb l).bind fun y => (rdo fun h => (f h x y).bind asB).bind fun k => if k then (mc l).bind fun z => rdo fun h => g h y z else fun h => .ok (.bl false) h
theorem chain_read {f g : Hc → D → D → Option D} {σ : St} {H : Hp} {Q : VK} (t : tG X.K X.mg W (RV X.K) (op2c f g ma mb mc) σ H Q) :
    tChain (rOp X f) (rOp X g) (tG X.K X.mg W (RV X.K) ma) (tG X.K X.mg W (RV X.K) mb) (tG X.K X.mg W (RV X.K) mc) σ H Q := by
  obtain ⟨w, l, h, s, sl, r⟩ := t
  refine tG_mono (fun x H1 ⟨w1, dx, h1, l1, s1, k1, rx, r1⟩ => ?_) (tG_bind s sl r)
  refine tG_mono (fun y H2 ⟨w2, dy, h2, l2, s2, k2, ry, r2⟩ => ?_) (tG_bind s1 (sl.le l1) r1)
  obtain ⟨k, e, r2⟩ := r2.rdo_bind
  have e : (f h2 dx dy).bind asB = some k := e
  · cases ef : f h2 dx dy with
    | none => rw [ef] at e; cases e
    | some d =>
      rw [ef] at e
      have eb : d = .bl k := by
        cases d <;> first | cases e | skip
        rfl
      subst eb
      refine ⟨w2, h2, dx, dy, .bl k, ef, s2, rx.le l2, ry, fun w3 H3 z l3 s3 k3 rz => ?_⟩
      cases (show z = _ from rz)
      refine ⟨k, rfl, ?_⟩
      have r3 := r2.le l3 k3
      cases k with
      | false => rw [if_neg Bool.false_ne_true]; exact Res.stay (v := V.bl false) r3 s3 rfl
      | true =>
        rw [if_pos rfl]
        refine tG_mono (fun z H4 ⟨w4, dz, h4, l4, s4, k4, rz, r4⟩ => ?_) (tG_bind s3 (sl.le ((l1.trans l2).trans l3)) r3)
        obtain ⟨d, e, k⟩ := r4.rdo
        exact ⟨w4, h4, dy, dz, d, e, s4, ry.le (l3.trans l4), rz, k⟩
theorem me_chain {op op' : CmpOp} {f g : Hc → D → D → Option D} (ho : OpM X (compareOp op) f) (ho' : OpM X (compareOp op') g) (ha : ME X W a ma) (hb : ME X W b mb) (hc : ME X W c mc)
    (hm : lastMarks [op, op'] [b, c] = false := by with_unfolding_all rfl) : ME X W (.Compare a [op, op'] [b, c] pos) (op2c f g ma mb mc) :=
  PE.weak (pe_chain ho.rule ho'.rule ha hb hc hm) fun σ H Q t => chain_read t
theorem mt_chain {op op' : CmpOp} {f g : Hc → D → D → Option D} (ho : OpM X (compareOp op) f) (ho' : OpM X (compareOp op') g) (ha : ME X W a ma) (hb : ME X W b mb) (hc : ME X W c mc)
    (hm : lastMarks [op, op'] [b, c] = false := by with_unfolding_all rfl) : MT X W (.Compare a [op, op'] [b, c] pos) (toTB (op2c f g ma mb mc)) :=
  PT.weak (pt_chain ho.rule ho'.rule ha hb hc hm) fun σ H Q ⟨w, l, h, s, sl, r⟩ => by
    have t : tG X.K X.mg W (RV X.K) (op2c f g ma mb mc) σ H (fun x H' => ∃ k, x = .bl k ∧ Q k H') := by
      refine tG_mono (fun x H1 ⟨w1, dx, h1, l1, s1, k1, rx, r1⟩ => ?_) (tG_bind s sl r)
      obtain ⟨d, e, k⟩ := r1.rdo
      unfold asB at e
      split at e
      · rename_i b
        cases e
        exact ⟨d, rx, k w1 H1 d w1.le_refl s1 (Keep.refl _ _ _) rfl⟩
      · cases e
    exact chain_read t

/-! ### and, or, not, if -/
variable {rest : List Expr}
def orV (ma mb : L → M D) : L → M D := fun l => (ma l).bind fun x => (rdo fun h => truD h x).bind fun k => if k then fun h => .ok x h else mb l
def andV (ma mb : L → M D) : L → M D := fun l => (ma l).bind fun x => (rdo fun h => truD h x).bind fun k => if k then mb l else fun h => .ok x h
def notV (ma : L → M D) : L → M D := fun l => (ma l).bind fun x => rdo fun h => (truD h x).map fun k => .bl (!k)
theorem me_one {op} (h : ME X W a ma) : ME X W (.BoolOp op [a] pos) ma := pe_one h
theorem me_or (ha : ME X W a ma) (hb : ME X W (.BoolOp .Or (b :: rest) pos) mb) : ME X W (.BoolOp .Or (a :: b :: rest) pos) (orV ma mb) :=
  PE.weak (pe_orT ha hb) fun σ H Q ⟨w, l, h, s, sl, r⟩ => by
    refine tG_mono (fun x H1 ⟨w1, dx, h1, l1, s1, k1, rx, r1⟩ => ?_) (tG_bind s sl r)
    obtain ⟨k, e, r1⟩ := r1.rdo_bind
    · refine ⟨k, truD_ok s1 rx e, ?_⟩
      cases k with
      | true => rw [if_pos rfl]; exact Res.stay r1 s1 rx
      | false => rw [if_neg Bool.false_ne_true]; exact ⟨w1, l, h1, s1, sl.le l1, r1⟩
theorem me_and (ha : ME X W a ma) (hb : ME X W (.BoolOp .And (b :: rest) pos) mb) : ME X W (.BoolOp .And (a :: b :: rest) pos) (andV ma mb) :=
  PE.weak (pe_andT ha hb) fun σ H Q ⟨w, l, h, s, sl, r⟩ => by
    refine tG_mono (fun x H1 ⟨w1, dx, h1, l1, s1, k1, rx, r1⟩ => ?_) (tG_bind s sl r)
    obtain ⟨k, e, r1⟩ := r1.rdo_bind
    · refine ⟨k, truD_ok s1 rx e, ?_⟩
      cases k with
      | false => rw [if_neg Bool.false_ne_true]; exact Res.stay r1 s1 rx
      | true => rw [if_pos rfl]; exact ⟨w1, l, h1, s1, sl.le l1, r1⟩
theorem me_not (ha : ME X W a ma) : ME X W (.UnaryOp .Not a pos) (notV ma) :=
  PE.weak (pe_notT ha) fun σ H Q ⟨w, l, h, s, sl, r⟩ => by
    refine tG_mono (fun x H1 ⟨w1, dx, h1, l1, s1, k1, rx, r1⟩ => ?_) (tG_bind s sl r)
    obtain ⟨d, e, k⟩ := r1.rdo
    cases et : truD h1 dx with
    | none => rw [et] at e; cases e
    | some b =>
      rw [et] at e
      cases e
      exact ⟨b, truD_ok s1 rx et, k w1 H1 _ w1.le_refl s1 (Keep.refl _ _ _) rfl⟩
variable {ta tb tc : L → M Bool}
def orT (ma mb : L → M Bool) : L → M Bool := fun l => (ma l).bind fun k => if k then fun h => .ok true h else mb l
def andT (ma mb : L → M Bool) : L → M Bool := fun l => (ma l).bind fun k => if k then mb l else fun h => .ok false h
def notT (ma : L → M Bool) : L → M Bool := fun l => (ma l).bind fun k => fun h => .ok (!k) h
theorem mw_or1 (ha : MT X W a ta) : MW X W (.BoolOp .Or [a] pos) ta := pw_or1 ha
theorem mw_and1 (ha : MT X W a ta) : MW X W (.BoolOp .And [a] pos) ta := pw_and1 ha
theorem mw_or (ha : MT X W a ta) (hb : MW X W (.BoolOp .Or (b :: rest) pos) tb) : MW X W (.BoolOp .Or (a :: b :: rest) pos) (orT ta tb) :=
  PW.weak (pw_or ha hb) fun σ H Q ⟨w, l, h, s, sl, r⟩ => by
    refine tG_mono (fun x H1 ⟨w1, k, h1, l1, s1, k1, rx, r1⟩ => ?_) (tG_bind s sl r)
    cases rx
    cases x with
    | true => rw [if_pos rfl]; exact Res.stay r1 s1 rfl
    | false => rw [if_neg Bool.false_ne_true]; exact ⟨w1, l, h1, s1, sl.le l1, r1⟩
theorem mw_and (ha : MT X W a ta) (hb : MW X W (.BoolOp .And (b :: rest) pos) tb) : MW X W (.BoolOp .And (a :: b :: rest) pos) (andT ta tb) :=
  PW.weak (pw_and ha hb) fun σ H Q ⟨w, l, h, s, sl, r⟩ => by
    refine tG_mono (fun x H1 ⟨w1, k, h1, l1, s1, k1, rx, r1⟩ => ?_) (tG_bind s sl r)
    cases rx
    cases x with
    | false => rw [if_neg Bool.false_ne_true]; exact Res.stay r1 s1 rfl
    | true => rw [if_pos rfl]; exact ⟨w1, l, h1, s1, sl.le l1, r1⟩
theorem MW.mt {e : Expr} {m : L → M Bool} (h : MW X W e m) : MT X W e m := PW.pt h
theorem mt_not (ha : MT X W a ta) : MT X W (.UnaryOp .Not a pos) (notT ta) :=
  PT.weak (pt_not ha) fun σ H Q ⟨w, l, h, s, sl, r⟩ => by
    refine tG_mono (fun x H1 ⟨w1, k, h1, l1, s1, k1, rx, r1⟩ => ?_) (tG_bind s sl r)
    cases rx
    exact Res.stay r1 s1 rfl
def ifV (t : L → M Bool) (ma mb : L → M D) : L → M D := fun l => (t l).bind fun k => if k then ma l else mb l
theorem me_ifExp (hc : MT X W c tc) (ha : ME X W a ma) (hb : ME X W b mb) : ME X W (.IfExp c a b pos) (ifV tc ma mb) :=
  PE.weak (pe_ifExp hc ha hb) fun σ H Q ⟨w, l, h, s, sl, r⟩ => by
    refine tG_mono (fun x H1 ⟨w1, k, h1, l1, s1, k1, rx, r1⟩ => ?_) (tG_bind s sl r)
    cases rx
    cases x with
    | true => rw [if_pos rfl]; exact ⟨w1, l, h1, s1, sl.le l1, r1⟩
    | false => rw [if_neg Bool.false_ne_true]; exact ⟨w1, l, h1, s1, sl.le l1, r1⟩

/-! ### arguments, displays -/
variable {es : List Expr} {mr : L → M (List D)}
def nilA : L → M (List D) := fun _ h => .ok [] h
def consA (ma : L → M D) (mr : L → M (List D)) : L → M (List D) := fun l => (ma l).bind fun x => (mr l).bind fun xs => fun h => .ok (x :: xs) h
theorem ma_nil : MA X W [] nilA := PA.weak pa_nil fun σ H Q ⟨w, l, h, s, sl, r⟩ => Res.stay (v := []) r s rfl
theorem ma_cons (ha : ME X W a ma) (hr : MA X W es mr) (hs : starEach (a :: es) X.env = (false, eval a X.env) :: starEach es X.env := by rfl) : MA X W (a :: es) (consA ma mr) :=
  PA.weak (pa_cons ha hr hs) fun σ H Q ⟨w, l, h, s, sl, r⟩ => by
    refine tG_mono (fun x H1 ⟨w1, dx, h1, l1, s1, k1, rx, r1⟩ => ?_) (tG_bind s sl r)
    refine tG_mono (fun xs H2 ⟨w2, ds, h2, l2, s2, k2, rs, r2⟩ => ?_) (tG_bind s1 (sl.le l1) r1)
    exact Res.stay (v := x :: xs) r2 s2 ⟨x, xs, rfl, rx.le l2, rs⟩
/-- the items of a list or tuple -/
def seqD (h : Hc) : D → Option (List D)
  | .tup x => some x
  | .lst x => some x
  | .arg x => some x
  | .ref n => objL h n
  | _ => none
theorem seqD_ok {w : Wd} {h : Hc} {H : Hp} {d : D} {x : V} {ds : List D} (s : Sim X.K w h H) (r : RV X.K w d x) (e : seqD h d = some ds) : ∃ p xs, x = V.ref p ∧ (SqT X.K H p xs ∨ SqL X.K H p xs) ∧ ds.length ≤ sizeLine ∧ RVs X.K w ds xs := by
  cases d with
  | tup ds' =>
    obtain ⟨a, vs, rfl, q, z, rv⟩ := r
    cases e
    exact ⟨a, vs, rfl, .inl (SqT.le s.fx q), z, rv⟩
  | lst ds' =>
    obtain ⟨a, vs, rfl, q, z, rv⟩ := r
    cases e
    exact ⟨a, vs, rfl, .inr (SqL.of (s.fx _ _ q)), z, rv⟩
  | arg ds' =>
    obtain ⟨a, vs, rfl, q, z, rv⟩ := r
    cases e
    exact ⟨a, vs, rfl, .inr (SqL.le s.fx q), z, rv⟩
  | ref n =>
    obtain ⟨a, rfl, q⟩ := r
    obtain ⟨vs, ev, z, rv⟩ := s.ob n _ a (objL_some e) q
    exact ⟨a, vs, rfl, .inr (SqL.of ev), z, rv⟩
  | _ => cases e
def starA (ma : L → M D) (mr : L → M (List D)) : L → M (List D) := fun l => (ma l).bind fun x => (rdo fun h => seqD h x).bind fun xs => (mr l).bind fun ys => fun h => .ok (xs ++ ys) h
theorem ma_star {p : Pos} (ha : ME X W a ma) (hr : MA X W es mr) (hs : starEach (.Starred a p :: es) X.env = (true, eval a X.env) :: starEach es X.env := by rfl) : MA X W (.Starred a p :: es) (starA ma mr) :=
  PA.weak (StX.pa_star ha hr hs) fun σ H Q ⟨w, l, h, s, sl, r⟩ => by
    refine tG_mono (fun x H1 ⟨w1, dx, h1, l1, s1, k1, rx, r1⟩ => ?_) (tG_bind s sl r)
    obtain ⟨ds, e, r1⟩ := r1.rdo_bind
    · obtain ⟨p, xs, rfl, q, z, rv⟩ := seqD_ok s1 rx e
      refine ⟨p, xs, rfl, q, ?_⟩
      refine tG_mono (fun ys H2 ⟨w2, ds2, h2, l2, s2, k2, rs, r2⟩ => ?_) (tG_bind (f := fun ys => fun h => .ok (ds ++ ys) h) s1 (sl.le l1) r1)
      exact Res.stay (v := xs ++ ys) r2 s2 ((rv.le l2).append rs)
def mkT (ds : List D) : Option D := if ds.length ≤ sizeLine then some (.tup ds) else none
def mkL (ds : List D) : Option D := if ds.length ≤ sizeLine then some (.lst ds) else none
def tupV (m : L → M (List D)) : L → M D := fun l => (m l).bind fun ds => rdo fun _ => mkT ds
def lstV (m : L → M (List D)) : L → M D := fun l => (m l).bind fun ds => rdo fun _ => mkL ds
theorem mkT_some {ds : List D} {d : D} (e : mkT ds = some d) : ds.length ≤ sizeLine ∧ d = .tup ds := by
  unfold mkT at e
  split at e
  · cases e; exact ⟨by assumption, rfl⟩
  · cases e
theorem mkL_some {ds : List D} {d : D} (e : mkL ds = some d) : ds.length ≤ sizeLine ∧ d = .lst ds := by
  unfold mkL at e
  split at e
  · cases e; exact ⟨by assumption, rfl⟩
  · cases e
/-- a new tuple, a new list, as the answer -/
theorem new_tup {w : Wd} {h : Hc} {H : Hp} {ds : List D} {vs : List V} {Q : VK} (s : Sim X.K w h H) (z : ds.length ≤ sizeLine) (rv : RVs X.K w ds vs) (k : ∀ w' H' v, w.le w' → Sim X.K w' h H' → Keep w h H w' h H' → RV X.K w' (.tup ds) v → Q v H') {p : Addr} (hp : H p = none) : Q (.ref p) (upd H p (.tup vs)) := by
  obtain ⟨s2, l2, k2⟩ := s.fix (.tup vs) hp
  exact k _ _ _ l2 s2 k2 ⟨p, vs, rfl, SqT.of upd_same, z, rv.le l2⟩
theorem new_lst {w : Wd} {h : Hc} {H : Hp} {ds : List D} {vs : List V} {Q : VK} (s : Sim X.K w h H) (z : ds.length ≤ sizeLine) (rv : RVs X.K w ds vs) (k : ∀ w' H' v, w.le w' → Sim X.K w' h H' → Keep w h H w' h H' → RV X.K w' (.lst ds) v → Q v H') {p : Addr} (hp : H p = none) : Q (.ref p) (upd H p (.lst vs)) := by
  obtain ⟨s2, l2, k2⟩ := s.fix (.lst vs) hp
  exact k _ _ _ l2 s2 k2 ⟨p, vs, rfl, upd_same, z, rv.le l2⟩
theorem me_tup {x1} (hr : MA X W es mr) : ME X W (.Tuple es x1 pos) (tupV mr) :=
  PE.weak (pe_tup hr) fun σ H Q ⟨w, l, h, s, sl, r⟩ => by
    refine tG_mono (fun vs H1 ⟨w1, ds, h1, l1, s1, k1, rv, r1⟩ => ?_) (tG_bind s sl r)
    obtain ⟨d, e, k⟩ := r1.rdo
    obtain ⟨z, rfl⟩ := mkT_some e
    exact ⟨by rw [rv.length]; exact z, fun p hp => new_tup s1 z rv k hp⟩
theorem me_lst (hr : MA X W es mr) : ME X W (.List es pos) (lstV mr) :=
  PE.weak (pe_lst hr) fun σ H Q ⟨w, l, h, s, sl, r⟩ => by
    refine tG_mono (fun vs H1 ⟨w1, ds, h1, l1, s1, k1, rv, r1⟩ => ?_) (tG_bind s sl r)
    obtain ⟨d, e, k⟩ := r1.rdo
    obtain ⟨z, rfl⟩ := mkL_some e
    exact ⟨by rw [rv.length]; exact z, fun p hp => new_lst s1 z rv k hp⟩
/-- a list that will be changed -/
def lstN (m : L → M (List D)) : L → M D := fun l => (m l).bind fun ds => fun h => if ds.length ≤ sizeLine then .ok (.ref h.length) (h ++ [.lst ds]) else .bad
theorem me_lstN (hr : MA X W es mr) : ME X W (.List es pos) (lstN mr) :=
  PE.weak (pe_lst hr) fun σ H Q ⟨w, l, h, s, sl, r⟩ => by
    refine tG_mono (fun vs H1 ⟨w1, ds, h1, l1, s1, k1, rv, r1⟩ => ?_) (tG_bind s sl r)
    by_cases z : ds.length ≤ sizeLine
    · rw [if_pos z] at r1
      refine ⟨by rw [rv.length]; exact z, fun p hp => ?_⟩
      have l2 : w1.le ⟨w1.ρ ++ [p], w1.F⟩ := ⟨⟨[p], rfl⟩, fun a u e => e⟩
      obtain ⟨s2, l2, k2, e2⟩ := s1.new (o := .lst vs) (ob := .lst ds) hp ⟨vs, upd_same, z, rv.le l2⟩
      exact r1 _ _ _ l2 s2 k2 ⟨p, rfl, e2⟩
    · rw [if_neg z] at r1
      exact r1.elim

/-! ### calls of built-ins -/
def CallM (X : Cx) (f : Value) (g : Hc → List D → Option D) : Prop :=
  ∀ (w : Wd) (h : Hc) (ds : List D) (d : D) (pins : List (Addr × Obj)) (s : Shared) (σ : St) (H : Hp) (xs : List V) (us : List Value) (Q : VK), g h ds = some d → Sim X.K w h H → RVs X.K w ds xs →
    Inv X pins σ H s → Vals xs us → (∀ w' H' z, w.le w' → Sim X.K w' h H' → Keep w h H w' h H' → RV X.K w' d z → Q z H') → wpAny (model X.prog X.w) X.A (call f us) (EP X pins σ Q) X.xe s
def rCall (X : Cx) (g : Hc → List D → Option D) : List V → Hp → VK → Prop := fun xs H Q => ∃ w h ds d, g h ds = some d ∧ Sim X.K w h H ∧ RVs X.K w ds xs ∧ ∀ w' H' z, w.le w' → Sim X.K w' h H' → Keep w h H w' h H' → RV X.K w' d z → Q z H'
theorem CallM.rule {f : Value} {g : Hc → List D → Option D} (o : CallM X f g) : CallR X f (rCall X g) := by
  intro pins s σ H xs us Q I rx ⟨w, h, ds, d, e, si, r1, k⟩
  exact o w h ds d pins s σ H xs us Q e si r1 I rx k
theorem CallM.of {f : Value} {g : Hc → List D → Option D} {r : List V → Hp → VK → Prop} (o : CallR X f r) (k : ∀ (w : Wd) (h : Hc) (ds : List D) (d : D) (H : Hp) (xs : List V) (Q : VK), g h ds = some d → Sim X.K w h H → RVs X.K w ds xs →
    (∀ w' H' z, w.le w' → Sim X.K w' h H' → Keep w h H w' h H' → RV X.K w' d z → Q z H') → r xs H Q) : CallM X f g :=
  fun w h ds d pins s σ H xs us Q e si r1 I rx q => o pins s σ H xs us Q I rx (k w h ds d H xs Q e si r1 q)
def callV (g : Hc → List D → Option D) (mr : L → M (List D)) : L → M D := fun l => (mr l).bind fun ds => rdo fun h => g h ds
theorem me_callB {id : String} {x : Str} {p : Pos} {g : Hc → List D → Option D} (hc : CallM X (.builtin id) g) (hg : Gl X x) (hm : X.mg x = none) (hv : bootBuiltins x = some (.builtin id)) (ha : MA X W (a :: es) mr) (hn : x ≠ "__name__" := by decide) (hdb : (x == ("__debug__" : Str)) = false := by decide)
    (he : starEach (a :: es) X.env = (false, eval a X.env) :: starEach es X.env := by rfl) (hpl : (backTo pos (starEach es X.env)).any (·.1) = false := by rfl) :
    ME X W (.Call (.Name x p) (a :: es) [] pos) (callV g mr) :=
  PE.weak (pe_callB hc.rule hg hm hv ha hn hdb he hpl) fun σ H Q ⟨w, l, h, s, sl, r⟩ => by
    refine tG_mono (fun vs H1 ⟨w1, ds, h1, l1, s1, k1, rv, r1⟩ => ?_) (tG_bind s sl r)
    obtain ⟨d, e, k⟩ := r1.rdo
    exact ⟨w1, h1, ds, d, e, s1, rv, k⟩
theorem me_callTy {T : String} {x : Str} {p : Pos} {g : Hc → List D → Option D} (hc : CallM X (.type T) g) (hg : Gl X x) (hm : X.mg x = none) (hv : bootBuiltins x = some (.type T)) (ha : MA X W (a :: es) mr) (hn : x ≠ "__name__" := by decide) (hdb : (x == ("__debug__" : Str)) = false := by decide)
    (he : starEach (a :: es) X.env = (false, eval a X.env) :: starEach es X.env := by rfl) (hpl : (backTo pos (starEach es X.env)).any (·.1) = false := by rfl) :
    ME X W (.Call (.Name x p) (a :: es) [] pos) (callV g mr) :=
  PE.weak (pe_callTy hc.rule hg hm hv ha hn hdb he hpl) fun σ H Q ⟨w, l, h, s, sl, r⟩ => by
    refine tG_mono (fun vs H1 ⟨w1, ds, h1, l1, s1, k1, rv, r1⟩ => ?_) (tG_bind s sl r)
    obtain ⟨d, e, k⟩ := r1.rdo
    exact ⟨w1, h1, ds, d, e, s1, rv, k⟩
end
end Mz

namespace Mz
open PySem L2
section
variable {X : Cx} {W : WX'}

/-! ### + -/
def okS (x : List Nat) : Prop := x.length ≤ sizeLine ∧ x.all (fun c => decide (c < 0x110000)) = true
def addD (_ : Hc) : D → D → Option D
  | .int i, .int j => some (.int (i + j))
  | .str x, .str y => if x.length + y.length ≤ sizeLine then some (.str (x ++ y)) else none
  | .tup x, .tup y => if x.length + y.length ≤ sizeLine then some (.tup (x ++ y)) else none
  | .lst x, .lst y => if x.length + y.length ≤ sizeLine then some (.lst (x ++ y)) else none
  | _, _ => none
theorem om_add : OpM X (binaryOp .Add) addD := by
  refine OpM.of ((op_add.or op_add_str).or (op_catA.or op_cat)) fun w h dx dy d H x y Q e s rx ry k => ?_
  unfold addD at e
  split at e
  · cases e; cases (show x = _ from rx); cases (show y = _ from ry)
    exact .inl (.inl ⟨_, _, rfl, rfl, k w H _ w.le_refl s (Keep.refl _ _ _) rfl⟩)
  · rename_i c c'
    split at e
    · rename_i z
      cases e
      obtain ⟨rfl, z1, z2⟩ := rx
      obtain ⟨rfl, z3, z4⟩ := ry
      refine .inl (.inr ⟨_, _, rfl, rfl, by rw [cs_length, cs_length]; exact z, k w H _ w.le_refl s (Keep.refl _ _ _) ⟨?_, by simpa using z, ?_⟩⟩)
      · show V.str (Str.append (cs c) (cs c')) = V.str (cs (c ++ c'))
        simp [Str.append, cs]
      · rw [List.all_append, z2, z4]; rfl
    · cases e
  · rename_i c c'
    split at e
    · rename_i z
      cases e
      obtain ⟨a, vs, rfl, q, z1, rv⟩ := rx
      obtain ⟨b, us, rfl, q', z2, rv'⟩ := ry
      have e1 := rv.length
      have e2 := rv'.length
      refine .inr (.inl ⟨a, b, vs, us, rfl, rfl, SqT.le s.fx q, SqT.le s.fx q', by omega, fun h0 => ?_, fun h0 h1 => ?_, fun h0 h1 p hp => ?_⟩)
      · subst h0
        have : c = [] := List.eq_nil_of_length_eq_zero (by simpa using e1.symm)
        subst this
        exact k w H _ w.le_refl s (Keep.refl _ _ _) ⟨b, us, rfl, q', by simpa using z, rv'⟩
      · subst h1
        have : c' = [] := List.eq_nil_of_length_eq_zero (by simpa using e2.symm)
        subst this
        rw [List.append_nil] at k
        exact k w H _ w.le_refl s (Keep.refl _ _ _) ⟨a, vs, rfl, q, by simpa using z, rv⟩
      · exact new_tup s (by simpa using z) (rv.append rv') k hp
    · cases e
  · rename_i c c'
    split at e
    · rename_i z
      cases e
      obtain ⟨a, vs, rfl, q, z1, rv⟩ := rx
      obtain ⟨b, us, rfl, q', z2, rv'⟩ := ry
      have e1 := rv.length
      have e2 := rv'.length
      exact .inr (.inr ⟨a, b, vs, us, rfl, rfl, s.fx _ _ q, s.fx _ _ q', by omega, fun p hp => new_lst s (by simpa using z) (rv.append rv') k hp⟩)
    · cases e
  · cases e
/-- an operation on two ints -/
theorem OpM.ints {fs : Value → Value → Sem Value} {C : Int → Int → Prop} [∀ i j, Decidable (C i j)] {g : Int → Int → V} {g' : Int → Int → D} (o : OpR X fs (rI C g)) (hg : ∀ w i j, RV X.K w (g' i j) (g i j)) :
    OpM X fs (fun _ x y => match x, y with | .int i, .int j => if C i j then some (g' i j) else none | _, _ => none) := by
  refine OpM.of o fun w h dx dy d H x y Q e s rx ry k => ?_
  split at e
  · split at e
    · rename_i z
      cases e; cases (show x = _ from rx); cases (show y = _ from ry)
      exact ⟨_, _, rfl, rfl, z, k w H _ w.le_refl s (Keep.refl _ _ _) (hg w _ _)⟩
    · cases e
  · cases e
theorem OpM.ints0 {fs : Value → Value → Sem Value} {g : Int → Int → V} {g' : Int → Int → D} (o : OpR X fs (rI0 g)) (hg : ∀ w i j, RV X.K w (g' i j) (g i j)) :
    OpM X fs (fun _ x y => match x, y with | .int i, .int j => some (g' i j) | _, _ => none) := by
  refine OpM.of o fun w h dx dy d H x y Q e s rx ry k => ?_
  split at e
  · cases e; cases (show x = _ from rx); cases (show y = _ from ry)
    exact ⟨_, _, rfl, rfl, k w H _ w.le_refl s (Keep.refl _ _ _) (hg w _ _)⟩
  · cases e
def subD (_ : Hc) (x y : D) : Option D := match x, y with
  | .int i, .int j => some (.int (i - j))
  | _, _ => none
theorem om_sub : OpM X (binaryOp .Sub) subD := OpM.ints0 (g' := fun i j => .int (i - j)) op_sub fun _ _ _ => rfl
instance (i j : Int) : Decidable (CMul i j) := by unfold CMul; infer_instance
instance (i j : Int) : Decidable (CDiv i j) := by unfold CDiv; infer_instance
instance (i j : Int) : Decidable (CPow i j) := by unfold CPow; infer_instance
def mulD (_ : Hc) (x y : D) : Option D := match x, y with
  | .int i, .int j => if CMul i j then some (.int (i * j)) else none
  | _, _ => none
theorem om_mul : OpM X (binaryOp .Mult) mulD := OpM.ints (g' := fun i j => .int (i * j)) op_mul fun _ _ _ => rfl
def fdivD (_ : Hc) (x y : D) : Option D := match x, y with
  | .int i, .int j => if CDiv i j then some (.int (i / j)) else none
  | _, _ => none
theorem om_fdiv : OpM X (binaryOp .FloorDiv) fdivD := OpM.ints (g' := fun i j => .int (i / j)) op_fdiv fun _ _ _ => rfl
def modD (_ : Hc) (x y : D) : Option D := match x, y with
  | .int i, .int j => if 0 < j then some (.int (i % j)) else none
  | _, _ => none
theorem om_mod : OpM X (binaryOp .Mod) modD := OpM.ints (g' := fun i j => .int (i % j)) op_mod fun _ _ _ => rfl
def powD (_ : Hc) (x y : D) : Option D := match x, y with
  | .int i, .int j => if CPow i j then some (.int (i ^ j.toNat)) else none
  | _, _ => none
theorem om_pow : OpM X (binaryOp .Pow) powD := OpM.ints (g' := fun i j => .int (i ^ j.toNat)) op_pow fun _ _ _ => rfl

/-! ### comparisons -/
/-- order of ints and of texts -/
theorem op_le_str' : OpR X (compareOp .LtE) (rI0 fun i j => .bl (decide (i ≤ j))) := op_le
def ltD (_ : Hc) (x y : D) : Option D := match x, y with
  | .int i, .int j => some (.bl (decide (i < j)))
  | .str i, .str j => some (.bl (decide (i < j)))
  | _, _ => none
theorem om_lt : OpM X (compareOp .Lt) ltD := by
  refine OpM.of (op_lt.or op_lt_str) fun w h dx dy d H x y Q e s rx ry k => ?_
  unfold ltD at e
  split at e
  · cases e; cases (show x = _ from rx); cases (show y = _ from ry)
    exact .inl ⟨_, _, rfl, rfl, k w H _ w.le_refl s (Keep.refl _ _ _) rfl⟩
  · cases e
    obtain ⟨rfl, _⟩ := rx
    obtain ⟨rfl, _⟩ := ry
    refine .inr ⟨_, _, rfl, rfl, ?_⟩
    rw [cs_cps, cs_cps]
    exact k w H _ w.le_refl s (Keep.refl _ _ _) rfl
  · cases e
def leD (_ : Hc) (x y : D) : Option D := match x, y with
  | .int i, .int j => some (.bl (decide (i ≤ j)))
  | _, _ => none
def gtD (_ : Hc) (x y : D) : Option D := match x, y with
  | .int i, .int j => some (.bl (decide (j < i)))
  | _, _ => none
def geD (_ : Hc) (x y : D) : Option D := match x, y with
  | .int i, .int j => some (.bl (decide (j ≤ i)))
  | _, _ => none
theorem om_le : OpM X (compareOp .LtE) leD := OpM.ints0 (g' := fun i j => .bl (decide (i ≤ j))) op_le fun _ _ _ => rfl
theorem om_gt : OpM X (compareOp .Gt) gtD := OpM.ints0 (g' := fun i j => .bl (decide (j < i))) op_gt fun _ _ _ => rfl
theorem om_ge : OpM X (compareOp .GtE) geD := OpM.ints0 (g' := fun i j => .bl (decide (j ≤ i))) op_ge fun _ _ _ => rfl

/-! ### == of data -/
mutual
def eqv : D → D → Bool
  | .non, .non => true
  | .bl a, .bl b => a == b
  | .bl a, .int j => (if a then 1 else 0) == j
  | .int i, .bl b => i == (if b then 1 else 0)
  | .int i, .int j => i == j
  | .str x, .str y => x == y
  | .lst xs, .lst ys => eqvs xs ys
  | .tup xs, .tup ys => eqvs xs ys
  | _, _ => false
def eqvs : List D → List D → Bool
  | [], [] => true
  | x :: xs, y :: ys => eqv x y && eqvs xs ys
  | _, _ => false
end
mutual
/-- data without mutable objects -/
def dat : D → Bool
  | .non => true
  | .bl _ => true
  | .int _ => true
  | .str _ => true
  | .tup ds => dats ds
  | .lst ds => dats ds
  | _ => false
def dats : List D → Bool
  | [] => true
  | d :: ds => dat d && dats ds
end
mutual
def dep : D → Nat
  | .tup ds => deps ds + 1
  | .lst ds => deps ds + 1
  | .edict => 1
  | _ => 0
def deps : List D → Nat
  | [] => 0
  | d :: ds => max (dep d) (deps ds)
end
mutual
theorem toP_eqv : ∀ (d e : D), dat d = true → dat e = true → PyData.eqv (toP d) (toP e) = eqv d e
  | .non, e, _, he => by cases e <;> first | rfl | cases he
  | .bl _, e, _, he => by cases e <;> first | rfl | cases he
  | .int _, e, _, he => by cases e <;> first | rfl | cases he
  | .str x, e, _, he => by
    cases e with
    | str y =>
      show (cs x == cs y) = (x == y)
      rw [Bool.eq_iff_iff]
      simp only [beq_iff_eq]
      exact ⟨cs_inj, fun h => by rw [h]⟩
    | arg _ => cases he
    | ref _ => cases he
    | ty _ => cases he
    | _ => rfl
  | .tup ds, e, hd, he => by
    cases e with
    | tup es => exact toPs_eqv ds es hd he
    | arg _ => cases he
    | ref _ => cases he
    | ty _ => cases he
    | _ => rfl
  | .lst ds, e, hd, he => by
    cases e with
    | lst es => exact toPs_eqv ds es hd he
    | arg _ => cases he
    | ref _ => cases he
    | ty _ => cases he
    | _ => rfl
  | .arg _, e, hd, _ => by cases hd
  | .ref _, e, hd, _ => by cases hd
  | .ty _, e, hd, _ => by cases hd
theorem toPs_eqv : ∀ (ds es : List D), dats ds = true → dats es = true → PyData.eqvAll (toPs ds) (toPs es) = eqvs ds es
  | [], [], _, _ => rfl
  | [], _ :: _, _, _ => rfl
  | _ :: _, [], _, _ => rfl
  | d :: ds, e :: es, hd, he => by
    have hd : (dat d && dats ds) = true := hd
    have he : (dat e && dats es) = true := he
    rw [Bool.and_eq_true] at hd he
    show (PyData.eqv (toP d) (toP e) && PyData.eqvAll (toPs ds) (toPs es)) = (eqv d e && eqvs ds es)
    rw [toP_eqv d e hd.1 he.1, toPs_eqv ds es hd.2 he.2]
end
mutual
theorem toP_dep : ∀ (d : D), (toP d).depth = dep d
  | .non => rfl
  | .bl _ => rfl
  | .int _ => rfl
  | .str _ => rfl
  | .tup ds => by
    show PyData.depthAll (toPs ds) + 1 = deps ds + 1
    rw [toPs_dep ds]
  | .lst ds => by
    show PyData.depthAll (toPs ds) + 1 = deps ds + 1
    rw [toPs_dep ds]
  | .arg _ => rfl
  | .ref _ => rfl
  | .ty _ => rfl
  | .edict => rfl
  | .rpr _ => rfl
theorem toPs_dep : ∀ (ds : List D), PyData.depthAll (toPs ds) = deps ds
  | [] => rfl
  | d :: ds => by
    show max (toP d).depth (PyData.depthAll (toPs ds)) = max (dep d) (deps ds)
    rw [toP_dep d, toPs_dep ds]
end
mutual
theorem RV.dp {K : PySem.W.Frag} {w : Wd} {H : Hp} (fx : ∀ a o, w.F a = some o → H a = some o) : ∀ (d : D) (v : V), dat d = true → RV K w d v → Dp K H v (toP d) ∧ (toP d).canLay0 = true
  | .non, v, _, r => by cases (show v = _ from r); exact ⟨.non, rfl⟩
  | .bl _, v, _, r => by cases (show v = _ from r); exact ⟨.bl _, rfl⟩
  | .int _, v, _, r => by cases (show v = _ from r); exact ⟨.int _, rfl⟩
  | .str x, v, _, r => by
    obtain ⟨rfl, _, z⟩ := r
    refine ⟨.str _, ?_⟩
    show (cs x).cps.all (· < 0x110000) = true
    rw [← Array.all_toList, cs_cps]
    exact z
  | .tup ds, v, hd, r => by
    obtain ⟨a, vs, rfl, q, _, rv⟩ := r
    obtain ⟨h1, h2⟩ := RVs.dp fx ds vs hd rv
    exact ⟨.tup (SqT.le fx q) h1, h2⟩
  | .lst ds, v, hd, r => by
    obtain ⟨a, vs, rfl, q, _, rv⟩ := r
    obtain ⟨h1, h2⟩ := RVs.dp fx ds vs hd rv
    exact ⟨.lst (SqL.of (fx _ _ q)) h1, h2⟩
  | .arg _, v, hd, _ => by cases hd
  | .ref _, v, hd, _ => by cases hd
  | .ty _, v, hd, _ => by cases hd
theorem RVs.dp {K : PySem.W.Frag} {w : Wd} {H : Hp} (fx : ∀ a o, w.F a = some o → H a = some o) : ∀ (ds : List D) (vs : List V), dats ds = true → RVs K w ds vs → DpAll K H vs (toPs ds) ∧ PyData.canLayAll0 (toPs ds) = true
  | [], vs, _, r => by cases (show vs = [] from r); exact ⟨.nil, rfl⟩
  | d :: ds, vs, hd, r => by
    have hd : (dat d && dats ds) = true := hd
    rw [Bool.and_eq_true] at hd
    obtain ⟨v, vs', rfl, r1, rs⟩ := r
    obtain ⟨h1, h2⟩ := RV.dp fx d v hd.1 r1
    obtain ⟨h3, h4⟩ := RVs.dp fx ds vs' hd.2 rs
    exact ⟨.cons h1 h3, by show (PyData.canLay0 (toP d) && PyData.canLayAll0 (toPs ds)) = true; rw [h2, h4]; rfl⟩
end
def okD (d : D) : Bool := dat d && decide (dep d ≤ 64)
def eqD (_ : Hc) (x y : D) : Option D := if okD x && okD y then some (.bl (eqv x y)) else none
def neD (_ : Hc) (x y : D) : Option D := if okD x && okD y then some (.bl (!eqv x y)) else none
theorem okD_dp {K : PySem.W.Frag} {w : Wd} {H : Hp} (fx : ∀ a o, w.F a = some o → H a = some o) {d : D} {v : V} (o : okD d = true) (r : RV K w d v) : Dp K H v (toP d) ∧ SeqAt.shaped (toP d) = true ∧ dat d = true := by
  unfold okD at o
  rw [Bool.and_eq_true] at o
  obtain ⟨h1, h2⟩ := RV.dp fx d v o.1 r
  refine ⟨h1, ?_, o.1⟩
  unfold SeqAt.shaped
  rw [h2, toP_dep]
  simpa using o.2
theorem om_eq (hu : X.A.units + 64 < cLine) : OpM X (compareOp .Eq) eqD := by
  refine OpM.of (op_eqD hu) fun w h dx dy d H x y Q e s rx ry k => ?_
  unfold eqD at e
  split at e
  · rename_i z
    rw [Bool.and_eq_true] at z
    cases e
    obtain ⟨a1, a2, a3⟩ := okD_dp s.fx z.1 rx
    obtain ⟨b1, b2, b3⟩ := okD_dp s.fx z.2 ry
    refine ⟨_, _, a1, b1, a2, b2, ?_⟩
    rw [toP_eqv dx dy a3 b3]
    exact k w H _ w.le_refl s (Keep.refl _ _ _) rfl
  · cases e
theorem om_ne (hu : X.A.units + 64 < cLine) : OpM X (compareOp .NotEq) neD := by
  refine OpM.of (op_neD hu) fun w h dx dy d H x y Q e s rx ry k => ?_
  unfold neD at e
  split at e
  · rename_i z
    rw [Bool.and_eq_true] at z
    cases e
    obtain ⟨a1, a2, a3⟩ := okD_dp s.fx z.1 rx
    obtain ⟨b1, b2, b3⟩ := okD_dp s.fx z.2 ry
    refine ⟨_, _, a1, b1, a2, b2, ?_⟩
    rw [toP_eqv dx dy a3 b3]
    exact k w H _ w.le_refl s (Keep.refl _ _ _) rfl
  · cases e

/-! ### in -/
def flatD : D → Bool
  | .non => true
  | .bl _ => true
  | .int _ => true
  | .str _ => true
  | _ => false
def inSeq (x : D) (xs : List D) : Bool := xs.any fun y => eqv y x
def inB (h : Hc) (x y : D) : Option Bool := match x, y with
  | .str [c], .str z => some (decide (c ∈ z))
  | x, y => match seqD h y with
    | some xs => if flatD x && xs.all flatD then some (inSeq x xs) else none
    | none => none
theorem flatD_ok {K : PySem.W.Frag} {w : Wd} {d : D} {v : V} (f : flatD d = true) (r : RV K w d v) : flatV v = true := by
  cases d with
  | non => cases (show v = _ from r); rfl
  | bl _ => cases (show v = _ from r); rfl
  | int _ => cases (show v = _ from r); rfl
  | str _ => obtain ⟨rfl, _⟩ := r; rfl
  | _ => cases f
theorem flatD_eq {K : PySem.W.Frag} {w : Wd} {d e : D} {v u : V} (f : flatD d = true) (g : flatD e = true) (r : RV K w d v) (q : RV K w e u) : eqV v u = eqv d e := by
  cases d with
  | non =>
    cases (show v = _ from r)
    cases e with
    | non => cases (show u = _ from q); rfl
    | bl _ => cases (show u = _ from q); rfl
    | int _ => cases (show u = _ from q); rfl
    | str _ => obtain ⟨rfl, _⟩ := q; rfl
    | _ => cases g
  | bl _ =>
    cases (show v = _ from r)
    cases e with
    | non => cases (show u = _ from q); rfl
    | bl _ => cases (show u = _ from q); rfl
    | int _ => cases (show u = _ from q); rfl
    | str _ => obtain ⟨rfl, _⟩ := q; rfl
    | _ => cases g
  | int _ =>
    cases (show v = _ from r)
    cases e with
    | non => cases (show u = _ from q); rfl
    | bl _ => cases (show u = _ from q); rfl
    | int _ => cases (show u = _ from q); rfl
    | str _ => obtain ⟨rfl, _⟩ := q; rfl
    | _ => cases g
  | str x =>
    obtain ⟨rfl, _⟩ := r
    cases e with
    | non => cases (show u = _ from q); rfl
    | bl _ => cases (show u = _ from q); rfl
    | int _ => cases (show u = _ from q); rfl
    | str y =>
      obtain ⟨rfl, _⟩ := q
      show (cs x == cs y) = (x == y)
      rw [Bool.eq_iff_iff]
      simp only [beq_iff_eq]
      exact ⟨cs_inj, fun h => by rw [h]⟩
    | _ => cases g
  | _ => cases f
theorem flatDs_ok {K : PySem.W.Frag} {w : Wd} : ∀ {ds : List D} {vs : List V}, ds.all flatD = true → RVs K w ds vs → vs.all flatV = true
  | [], vs, _, r => by cases (show vs = [] from r); rfl
  | d :: ds, vs, f, r => by
    obtain ⟨v, vs', rfl, r1, rs⟩ := r
    rw [List.all_cons, Bool.and_eq_true] at f
    rw [List.all_cons, flatD_ok f.1 r1, flatDs_ok f.2 rs]; rfl
theorem inSeq_ok {K : PySem.W.Frag} {w : Wd} {x : D} {u : V} (fx : flatD x = true) (rx : RV K w x u) : ∀ {ds : List D} {vs : List V}, ds.all flatD = true → RVs K w ds vs → inV u vs = inSeq x ds
  | [], vs, _, r => by cases (show vs = [] from r); rfl
  | d :: ds, vs, f, r => by
    obtain ⟨v, vs', rfl, r1, rs⟩ := r
    rw [List.all_cons, Bool.and_eq_true] at f
    show (eqV v u || inV u vs') = (eqv d x || inSeq x ds)
    rw [flatD_eq f.1 fx r1 rx, inSeq_ok fx rx f.2 rs]
def inD (h : Hc) (x y : D) : Option D := (inB h x y).map fun b => .bl b
def notInD (h : Hc) (x y : D) : Option D := (inB h x y).map fun b => .bl (!b)
theorem inB_seq {w : Wd} {h : Hc} {H : Hp} {x y : D} {u v : V} {k : Bool} (s : Sim X.K w h H) (rx : RV X.K w x u) (ry : RV X.K w y v) (e : (match seqD h y with
    | some xs => if flatD x && xs.all flatD then some (inSeq x xs) else none
    | none => none) = some k) : ∃ p xs, v = .ref p ∧ (SqL X.K H p xs ∨ SqT X.K H p xs) ∧ flatV u = true ∧ xs.all flatV = true ∧ inV u xs = k := by
  cases es : seqD h y with
  | none => rw [es] at e; cases e
  | some ds =>
    rw [es] at e
    simp only at e
    split at e
    · rename_i z
      rw [Bool.and_eq_true] at z
      cases e
      obtain ⟨p, xs, rfl, q, _, rv⟩ := seqD_ok s ry es
      exact ⟨p, xs, rfl, q.symm, flatD_ok z.1 rx, flatDs_ok z.2 rv, inSeq_ok z.1 rx z.2 rv⟩
    · cases e
theorem om_in : OpM X (compareOp .In) inD := by
  refine OpM.of (op_in_sign.or op_in_seq) fun w h dx dy d H x y Q e s rx ry k => ?_
  obtain ⟨b, e1, rfl⟩ := Option.map_eq_some_iff.mp (show (inB h dx dy).map _ = some d from e)
  unfold inB at e1
  split at e1
  · cases e1
    obtain ⟨rfl, _⟩ := rx
    obtain ⟨rfl, _⟩ := ry
    exact .inl ⟨_, _, rfl, rfl, by rw [cs_cps]; exact k w H _ w.le_refl s (Keep.refl _ _ _) rfl⟩
  · obtain ⟨p, xs, rfl, q, f1, f2, f3⟩ := inB_seq s rx ry e1
    refine .inr ⟨p, xs, rfl, q, f1, f2, ?_⟩
    rw [if_neg Bool.false_ne_true, f3]
    exact k w H _ w.le_refl s (Keep.refl _ _ _) rfl
theorem om_notIn : OpM X (compareOp .NotIn) notInD := by
  refine OpM.of (op_notIn_sign.or op_notIn_seq) fun w h dx dy d H x y Q e s rx ry k => ?_
  obtain ⟨b, e1, rfl⟩ := Option.map_eq_some_iff.mp (show (inB h dx dy).map _ = some d from e)
  unfold inB at e1
  split at e1
  · cases e1
    obtain ⟨rfl, _⟩ := rx
    obtain ⟨rfl, _⟩ := ry
    exact .inl ⟨_, _, rfl, rfl, by rw [cs_cps]; exact k w H _ w.le_refl s (Keep.refl _ _ _) rfl⟩
  · obtain ⟨p, xs, rfl, q, f1, f2, f3⟩ := inB_seq s rx ry e1
    refine .inr ⟨p, xs, rfl, q, f1, f2, ?_⟩
    rw [if_pos rfl, f3]
    exact k w H _ w.le_refl s (Keep.refl _ _ _) rfl

/-! ### subscripts, slices -/
def ixD (h : Hc) (x y : D) : Option D := match x, y with
  | .str z, .int i => (atI z i).map fun c => .str [c]
  | x, .int i => (seqD h x).bind fun xs => atI xs i
  | _, _ => none
theorem RVs.atI {K : PySem.W.Frag} {w : Wd} {ds : List D} {vs : List V} {i : Int} {d : D} (r : RVs K w ds vs) (e : L2.atI ds i = some d) : ∃ v, L2.atI vs i = some v ∧ RV K w d v := by
  unfold L2.atI at e ⊢
  rw [r.length]
  cases q : ixN ds.length i with
  | none => rw [q] at e; cases e
  | some j =>
    rw [q] at e
    exact r.get' e
def rIxM (X : Cx) (f : Hc → D → D → Option D) : R2 := rOp X f
theorem ixD_seq {w : Wd} {h : Hc} {H : Hp} {dx : D} {x : V} {i : Int} {d : D} {Q : VK} (s : Sim X.K w h H) (rx : RV X.K w dx x) (e : ((seqD h dx).bind fun xs => atI xs i) = some d) (k : ∀ w' H' z, w.le w' → Sim X.K w' h H' → Keep w h H w' h H' → RV X.K w' d z → Q z H') : rIx X.K x (.int i) H Q := by
  cases es : seqD h dx with
  | none => rw [es] at e; cases e
  | some ds =>
    rw [es] at e
    obtain ⟨p, xs, rfl, q, _, rv⟩ := seqD_ok s rx es
    obtain ⟨v, e1, r1⟩ := rv.atI e
    rcases q with q | q
    · exact .inr (.inl ⟨p, xs, i, v, rfl, rfl, q, e1, k w H _ w.le_refl s (Keep.refl _ _ _) r1⟩)
    · exact .inl ⟨p, xs, i, v, rfl, rfl, q, e1, k w H _ w.le_refl s (Keep.refl _ _ _) r1⟩
theorem ix_rule : IxR X (rOp X ixD) := by
  intro value slice pins s σ H x y v u Q I rx ry h hsub
  refine ix_seq value slice pins s σ H x y v u Q I rx ry ?_ hsub
  obtain ⟨w, h, dx, dy, d, e, si, r1, r2, k⟩ := h
  unfold ixD at e
  split at e
  · rename_i z i
    obtain ⟨c, e1, rfl⟩ := Option.map_eq_some_iff.mp e
    obtain ⟨rfl, z1, z2⟩ := r1
    cases (show y = _ from r2)
    obtain ⟨j, _, ej, _⟩ := atI_get e1
    refine .inr (.inr ⟨cs z, i, c, rfl, rfl, by rw [cs_length]; exact z1, by rw [cs_cps]; exact e1, k w H _ w.le_refl si (Keep.refl _ _ _) ⟨rfl, by show 1 ≤ sizeLine; decide, ?_⟩⟩)
    have := List.all_eq_true.mp z2 c (List.mem_of_getElem? ej)
    simpa using this
  · cases (show y = _ from r2)
    exact ixD_seq si r1 e k
  · cases e
variable {a b : Expr} {ma mb : L → M D} {pos : Pos}
theorem me_ix (ha : ME X W a ma) (hb : ME X W b mb) (hs : PlainIx b := by exact fun _ _ => rfl) : ME X W (.Subscript a b pos) (op2 ixD ma mb) :=
  PE.weak (pe_ix ix_rule ha hb hs) fun σ H Q t => op2_read t
/-- the bounds of a slice -/
def noO : L → M (Option Int) := fun _ h => .ok none h
def someO (m : L → M D) : L → M (Option Int) := fun l => (m l).bind fun x => rdo fun _ => match x with
  | .int i => some (some i)
  | _ => none
abbrev repO : Wd → Option Int → Option Int → Prop := fun _ a b => a = b
def MO (X : Cx) (W : WX') (e : Option Expr) (m : L → M (Option Int)) : Prop := PO X e (tG X.K X.mg W repO m)
theorem PO.weak {e : Option Expr} {t t' : TO} (h : PO X e t) (k : ∀ σ H Q, t' σ H Q → t σ H Q) : PO X e t' := ⟨fun pins s σ H Q I q => h.run pins s σ H Q I (k σ H Q q)⟩
theorem mo_none : MO X W none noO := PO.weak po_none fun σ H Q ⟨w, l, h, s, sl, r⟩ => Res.stay (v := none) r s rfl
theorem mo_some (ha : ME X W a ma) : MO X W (some a) (someO ma) := PO.weak (po_some ha) fun σ H Q ⟨w, l, h, s, sl, r⟩ => by
  refine tG_mono (fun x H1 ⟨w1, dx, h1, l1, s1, k1, rx, r1⟩ => ?_) (tG_bind s sl r)
  obtain ⟨d, e, k⟩ := r1.rdo
  split at e
  · cases e; cases (show x = _ from rx)
    exact ⟨_, rfl, k w1 H1 _ w1.le_refl s1 (Keep.refl _ _ _) rfl⟩
  · cases e
def cut {α : Type} (xs : List α) (lo hi : Option Int) : List α := (xs.drop (HT.sIx xs.length 0 lo)).take (HT.sIx xs.length xs.length hi - HT.sIx xs.length 0 lo)
def slD (h : Hc) (x : D) (lo hi : Option Int) : Option D := match x with
  | .str z => some (.str (cut z lo hi))
  | .tup xs => some (.tup (cut xs lo hi))
  | .lst xs => some (.lst (cut xs lo hi))
  | .ref n => (objL h n).map fun xs => .lst (cut xs lo hi)
  | _ => none
theorem cut_length {α : Type} (xs : List α) (lo hi : Option Int) : (cut xs lo hi).length ≤ xs.length := by
  unfold cut
  rw [List.length_take, List.length_drop]
  omega
theorem cut_mem {α : Type} {xs : List α} {lo hi : Option Int} {x : α} (h : x ∈ cut xs lo hi) : x ∈ xs := List.mem_of_mem_drop (List.mem_of_mem_take h)
theorem cut_all {α : Type} {xs : List α} {lo hi : Option Int} {p : α → Bool} (h : xs.all p = true) : (cut xs lo hi).all p = true :=
  List.all_eq_true.mpr fun x hx => List.all_eq_true.mp h x (cut_mem hx)
theorem RVs.cut {K : PySem.W.Frag} {w : Wd} {ds : List D} {vs : List V} {lo hi : Option Int} (r : RVs K w ds vs) : RVs K w (Mz.cut ds lo hi) (cutV vs lo hi) := by
  unfold Mz.cut cutV
  rw [r.length]
  exact (r.drop _).take _
theorem cs_cut (z : List Nat) (lo hi : Option Int) : cutS (cs z) lo hi = cs (cut z lo hi) := by
  unfold cutS cut
  rw [cs_cps, cs_length]
  rfl
def rSlM (X : Cx) : V → Option Int → Option Int → Hp → VK → Prop := fun x lo hi H Q => ∃ w h dx d, slD h dx lo hi = some d ∧ Sim X.K w h H ∧ RV X.K w dx x ∧ ∀ w' H' z, w.le w' → Sim X.K w' h H' → Keep w h H w' h H' → RV X.K w' d z → Q z H'
theorem sl_rule : SlR X (rSlM X) := by
  intro pins s σ H x v vl vu lo hi sl Q I rx hs pl pu hq
  refine ((sl_str.or sl_tupA).or sl_list) pins s σ H x v vl vu lo hi sl Q I rx hs pl pu ?_
  obtain ⟨w, h, dx, d, e, si, r1, k⟩ := hq
  unfold slD at e
  split at e
  · rename_i z
    cases e
    obtain ⟨rfl, z1, z2⟩ := r1
    refine .inl (.inl ⟨cs z, rfl, by rw [cs_length]; exact z1, ?_⟩)
    rw [cs_cut]
    exact k w H _ w.le_refl si (Keep.refl _ _ _) ⟨rfl, Nat.le_trans (cut_length z lo hi) z1, cut_all z2⟩
  · rename_i ds
    cases e
    obtain ⟨a, vs, rfl, q, z, rv⟩ := r1
    refine .inl (.inr ⟨a, vs, rfl, SqT.le si.fx q, fun hw => ?_, fun hw p hp => new_tup si (Nat.le_trans (cut_length ds lo hi) z) rv.cut k hp⟩)
    have : cut ds lo hi = ds := by
      unfold cut
      rw [rv.length] at hw
      rw [hw.1, hw.2]
      simp
    rw [this] at k
    exact k w H _ w.le_refl si (Keep.refl _ _ _) ⟨a, vs, rfl, q, z, rv⟩
  · rename_i ds
    cases e
    obtain ⟨a, vs, rfl, q, z, rv⟩ := r1
    exact .inr ⟨a, vs, rfl, SqL.of (si.fx _ _ q), fun p hp => new_lst si (Nat.le_trans (cut_length ds lo hi) z) rv.cut k hp⟩
  · rename_i n
    obtain ⟨ds, e1, rfl⟩ := Option.map_eq_some_iff.mp e
    obtain ⟨a, rfl, q⟩ := r1
    obtain ⟨vs, ev, z, rv⟩ := si.ob n _ a (objL_some e1) q
    exact .inr ⟨a, vs, rfl, SqL.of ev, fun p hp => new_lst si (Nat.le_trans (cut_length ds lo hi) z) rv.cut k hp⟩
  · cases e
def slV (ma : L → M D) (ml mh : L → M (Option Int)) : L → M D := fun l => (ma l).bind fun x => (ml l).bind fun lo => (mh l).bind fun hi => rdo fun h => slD h x lo hi
theorem me_slice {lo hi : Option Expr} {ml mh : L → M (Option Int)} {p2 : Pos} (ha : ME X W a ma) (hl : MO X W lo ml) (hh : MO X W hi mh) : ME X W (.Subscript a (.Slice lo hi none p2) pos) (slV ma ml mh) :=
  PE.weak (pe_slice sl_rule ha hl hh) fun σ H Q ⟨w, l, h, s, sl, r⟩ => by
    refine tG_mono (fun x H1 ⟨w1, dx, h1, l1, s1, k1, rx, r1⟩ => ?_) (tG_bind s sl r)
    refine tG_mono (fun lo' H2 ⟨w2, lo2, h2, l2, s2, k2, e2, r2⟩ => ?_) (tG_bind s1 (sl.le l1) r1)
    refine tG_mono (fun hi' H3 ⟨w3, hi3, h3, l3, s3, k3, e3, r3⟩ => ?_) (tG_bind s2 (sl.le (l1.trans l2)) r2)
    cases e2
    cases e3
    obtain ⟨d, e, k⟩ := r3.rdo
    exact ⟨w3, h3, dx, d, e, s3, rx.le (l2.trans l3), k⟩
end
end Mz

namespace Mz
open PySem L2
/-! ### statements -/
inductive Fl where
  | nx (l : L) | rt (d : D) | bk (l : L) | ct (l : L)
inductive RS where
  | ok (f : Fl) (h : Hc)
  | exc (c : Str) (d : D) (l : L) (h : Hc)
  | bad
abbrev S := L → Hc → RS
def ResS (K : PySem.W.Frag) (mg : Str → Option Value) (w : Wd) (h : Hc) (H : Hp) (W : WX') (E : Ends) : RS → Prop
  | .ok (.nx l') h' => ∀ w' H' σ', w.le w' → Sim K w' h' H' → Keep w h H w' h' H' → SimL K w' l' σ' → E.nx σ' H'
  | .ok (.rt d) h' => ∀ w' H' v, w.le w' → Sim K w' h' H' → Keep w h H w' h' H' → RV K w' d v → E.rt v H'
  | .ok (.bk l') h' => ∀ w' H' σ', w.le w' → Sim K w' h' H' → Keep w h H w' h' H' → SimL K w' l' σ' → E.bk σ' H'
  | .ok (.ct l') h' => ∀ w' H' σ', w.le w' → Sim K w' h' H' → Keep w h H w' h' H' → SimL K w' l' σ' → E.ct σ' H'
  | .exc c d l' h' => ∀ w' H' σ' cls dd, w.le w' → Sim K w' h' H' → Keep w h H w' h' H' → SimL K w' l' σ' → XV K mg w' H' c d cls dd → W cls dd σ' H'
  | .bad => False
theorem ResS.le {K : PySem.W.Frag} {mg : Str → Option Value} {w w1 : Wd} {h h1 : Hc} {H H1 : Hp} {W : WX'} {E : Ends} {r : RS} (l : w.le w1) (k : Keep w h H w1 h1 H1) (x : ResS K mg w h H W E r) : ResS K mg w1 h1 H1 W E r := by
  cases r with
  | ok f h' =>
    cases f with
    | nx l' => exact fun w2 H' v l2 s k2 q => x w2 H' v (l.trans l2) s (k.trans k2) q
    | rt d => exact fun w2 H' v l2 s k2 q => x w2 H' v (l.trans l2) s (k.trans k2) q
    | bk l' => exact fun w2 H' v l2 s k2 q => x w2 H' v (l.trans l2) s (k.trans k2) q
    | ct l' => exact fun w2 H' v l2 s k2 q => x w2 H' v (l.trans l2) s (k.trans k2) q
  | exc c d l' h' => exact fun w2 H' σ' cls dd l2 s k2 q => x w2 H' σ' cls dd (l.trans l2) s (k.trans k2) q
  | bad => exact x
def tS (K : PySem.W.Frag) (mg : Str → Option Value) (W : WX') (m : S) : TS := fun E σ H => ∃ w l h, Sim K w h H ∧ SimL K w l σ ∧ ResS K mg w h H W E (m l h)
def MS (X : Cx) (W : WX') (st : Stmt) (m : S) : Prop := PS X st (tS X.K X.mg W m)
def MSs (X : Cx) (W : WX') (st : List Stmt) (m : S) : Prop := PSs X st (tS X.K X.mg W m)
/-- an expression, then a statement by its value -/
def bindS {α : Type} (m : L → M α) (f : α → S) : S := fun l h => match m l h with
  | .ok a h' => f a l h'
  | .exc c d h' => .exc c d l h'
  | .bad => .bad
theorem SimL.set {K : PySem.W.Frag} {w : Wd} {l : L} {σ : St} {d : D} {v : V} (s : SimL K w l σ) (r : RV K w d v) (i : Nat) : SimL K w (l.set i (some d)) (σ.set i (some v)) := by
  refine ⟨by simp [s.1], fun j d' e => ?_⟩
  by_cases hj : i = j
  · subst hj
    have hl : i < l.length := by
      have := (List.getElem?_eq_some_iff.mp e).1
      simpa using this
    rw [List.getElem?_set_self hl] at e
    cases e
    exact ⟨v, List.getElem?_set_self (by rw [← s.1]; exact hl), r⟩
  · rw [List.getElem?_set_ne hj] at e
    rw [List.getElem?_set_ne hj]
    exact s.2 j d' e
theorem bindS_read {α β : Type} {K : PySem.W.Frag} {mg : Str → Option Value} {W : WX'} {rep : Wd → α → β → Prop} {m : L → M α} {f : α → S} {E : Ends} {σ : St} {H : Hp} {w : Wd} {l : L} {h : Hc} (s : Sim K w h H) (sl : SimL K w l σ) (r : ResS K mg w h H W E (bindS m f l h)) :
    tG K mg W rep m σ H (fun x H1 => ∃ w1 a h1, w.le w1 ∧ Sim K w1 h1 H1 ∧ Keep w h H w1 h1 H1 ∧ rep w1 a x ∧ ResS K mg w1 h1 H1 W E (f a l h1)) := by
  refine ⟨w, l, h, s, sl, ?_⟩
  unfold bindS at r
  cases e : m l h with
  | ok d h' => rw [e] at r; exact fun w2 H' v l2 s k q' => ⟨w2, d, h', l2, s, k, q', r.le l2 k⟩
  | exc c d h' => rw [e] at r; exact fun w2 H' cls dd l2 s2 k q' => r w2 H' σ cls dd l2 s2 k (sl.le l2) q'
  | bad => rw [e] at r; exact r
theorem ResS.next {K : PySem.W.Frag} {mg : Str → Option Value} {w : Wd} {h : Hc} {H : Hp} {W : WX'} {E : Ends} {l : L} {σ : St} (x : ResS K mg w h H W E (.ok (.nx l) h)) (s : Sim K w h H) (sl : SimL K w l σ) : E.nx σ H :=
  x w H σ w.le_refl s (Keep.refl _ _ _) sl
section
variable {X : Cx} {W : WX'} {a b e c : Expr} {ma mb me : L → M D} {tc : L → M Bool} {pos : Pos} {st : Stmt} {rest : List Stmt} {m m' : S}
def nextS : S := fun l h => .ok (.nx l) h
def seqS (m m' : S) : S := fun l h => match m l h with
  | .ok (.nx l') h' => m' l' h'
  | r => r
theorem mss_nil : MSs X W [] nextS := PSs.weak pss_nil fun E σ H ⟨w, l, h, s, sl, r⟩ => r.next s sl
theorem mss_one (h : MS X W st m) : MSs X W [st] m := pss_one h
theorem mss_cons (h1 : MS X W st m) (h2 : MSs X W rest m') : MSs X W (st :: rest) (seqS m m') := PSs.weak (pss_cons h1 h2) fun E σ H ⟨w, l, h, s, sl, r⟩ => by
  refine ⟨w, l, h, s, sl, ?_⟩
  unfold seqS at r
  cases e : m l h with
  | ok f h' =>
    rw [e] at r
    cases f with
    | nx l' => exact fun w2 H' σ' l2 s2 k q' => ⟨w2, l', h', s2, q', ResS.le l2 k r⟩
    | rt d => exact r
    | bk l' => exact r
    | ct l' => exact r
  | exc c d l' h' => rw [e] at r; exact r
  | bad => rw [e] at r; exact r
theorem ms_pass : MS X W (.Pass pos) nextS := PS.weak ps_pass fun E σ H ⟨w, l, h, s, sl, r⟩ => r.next s sl
theorem ms_doc {x j pos pos'} : MS X W (.Expr (.Constant (.str x) j pos) pos') nextS := PS.weak ps_doc fun E σ H ⟨w, l, h, s, sl, r⟩ => r.next s sl
def breakS : S := fun l h => .ok (.bk l) h
def contS : S := fun l h => .ok (.ct l) h
theorem ms_break : MS X W (.Break pos) breakS := PS.weak ps_break fun E σ H ⟨w, l, h, s, sl, r⟩ => r w H σ w.le_refl s (Keep.refl _ _ _) sl
theorem ms_continue : MS X W (.Continue pos) contS := PS.weak ps_continue fun E σ H ⟨w, l, h, s, sl, r⟩ => r w H σ w.le_refl s (Keep.refl _ _ _) sl
def badS : S := fun _ _ => .bad
/-- code that is never come to -/
theorem ms_never : MS X W st badS := PS.weak ps_never fun E σ H ⟨w, l, h, s, sl, r⟩ => r
theorem mss_never {sts : List Stmt} : MSs X W sts badS := PSs.weak pss_never fun E σ H ⟨w, l, h, s, sl, r⟩ => r
def exprS (m : L → M D) : S := bindS m fun _ => nextS
theorem ms_expr (he : ME X W e me) (hs : swapsWith e none pos.line X.env = pure false := by rfl) : MS X W (.Expr e pos) (exprS me) := PS.weak (ps_expr he hs) fun E σ H ⟨w, l, h, s, sl, r⟩ =>
  tG_mono (fun x H1 ⟨w1, d, h1, l1, s1, k1, rx, r1⟩ => ResS.next r1 s1 (sl.le l1)) (bindS_read s sl r)
def retS (m : L → M D) : S := bindS m fun d _ h => .ok (.rt d) h
theorem ms_ret (he : ME X W e me) : MS X W (.Return (some e) pos) (retS me) := PS.weak (ps_ret he) fun E σ H ⟨w, l, h, s, sl, r⟩ =>
  tG_mono (fun x H1 ⟨w1, d, h1, l1, s1, k1, rx, r1⟩ => r1 w1 H1 x w1.le_refl s1 (Keep.refl _ _ _) rx) (bindS_read s sl r)
theorem ms_retN : MS X W (.Return none pos) (fun _ h => .ok (.rt .non) h) := PS.weak ps_retN fun E σ H ⟨w, l, h, s, sl, r⟩ => r w H .non w.le_refl s (Keep.refl _ _ _) rfl
def ifS (t : L → M Bool) (m m' : S) : S := bindS t fun k => if k then m else m'
theorem ms_if {sa sb : List Stmt} (hc : MT X W c tc) (ha : MSs X W sa m) (hb : MSs X W sb m') : MS X W (.If c sa sb pos) (ifS tc m m') := PS.weak (ps_if hc ha hb) fun E σ H ⟨w, l, h, s, sl, r⟩ =>
  tG_mono (fun x H1 ⟨w1, k, h1, l1, s1, k1, rx, r1⟩ => by
    cases rx
    cases x with
    | true => rw [if_pos rfl]; exact ⟨w1, l, h1, s1, sl.le l1, r1⟩
    | false => rw [if_neg Bool.false_ne_true]; exact ⟨w1, l, h1, s1, sl.le l1, r1⟩) (bindS_read s sl r)

/-! ### targets -/
/-- the slots outside ix are as before -/
def Off (ix : List Nat) (σ σ' : St) : Prop := σ'.length = σ.length ∧ ∀ j, j ∉ ix → σ'[j]? = σ[j]?
theorem Off.refl (ix : List Nat) (σ : St) : Off ix σ σ := ⟨rfl, fun _ _ => rfl⟩
def tGt (K : PySem.W.Frag) (ix : List Nat) (g : D → L → Option L) : TG := fun v σ H Q => ∃ w l h d l', Sim K w h H ∧ SimL K w l σ ∧ RV K w d v ∧ g d l = some l' ∧ ∀ σ', SimL K w l' σ' → Off ix σ σ' → Q σ' H
def tGts (K : PySem.W.Frag) (ix : List Nat) (g : List D → L → Option L) : TGs := fun vs σ H Q => ∃ w l h ds l', Sim K w h H ∧ SimL K w l σ ∧ RVs K w ds vs ∧ g ds l = some l' ∧ ∀ σ', SimL K w l' σ' → Off ix σ σ' → Q σ' H
def MG (X : Cx) (tg : Expr) (ix : List Nat) (g : D → L → Option L) : Prop := PG X tg (tGt X.K ix g)
def MGs (X : Cx) (tgs : List Expr) (ix : List Nat) (g : List D → L → Option L) : Prop := PGs X tgs (tGts X.K ix g)
theorem PG.weak {tg : Expr} {t t' : TG} (h : PG X tg t) (k : ∀ v σ H Q, t' v σ H Q → t v σ H Q) : PG X tg t' := ⟨fun pins s σ H v u Q I r q => h.run pins s σ H v u Q I r (k v σ H Q q)⟩
theorem PGs.weak {tg : List Expr} {t t' : TGs} (h : PGs X tg t) (k : ∀ v σ H Q, t' v σ H Q → t v σ H Q) : PGs X tg t' := ⟨fun pins s σ H v u Q I r q => h.run pins s σ H v u Q I r (k v σ H Q q)⟩
def nameG (i : Nat) : D → L → Option L := fun d l => some (l.set i (some d))
theorem mg_name (i : Nat) {x : Str} (hN : X.N.Nodup) (hi : X.N[i]? = some x := by rfl) (hx : Loc X.env.scope x := by first | exact Or.inl rfl | exact Or.inr rfl) (hf : X.fn x = true ∨ X.env.scope.names.lookup x = some .local := by first | exact .inl rfl | exact .inr rfl | assumption) : MG X (.Name x pos) [i] (nameG i) :=
  PG.weak (pg_name hN hi hx hf) fun v σ H Q ⟨w, l, h, d, l', s, sl, r, e, q⟩ => by
    cases e
    exact q _ (sl.set r i) ⟨by simp, fun j hj => List.getElem?_set_ne (by simpa using Ne.symm (show ¬ j = i by simpa using hj))⟩
def nilG : List D → L → Option L := fun ds l => match ds with
  | [] => some l
  | _ => none
def consG (g : D → L → Option L) (gs : List D → L → Option L) : List D → L → Option L := fun ds l => match ds with
  | d :: ds => (g d l).bind (gs ds)
  | [] => none
theorem mgs_nil : MGs X [] [] nilG := PGs.weak pgs_nil fun vs σ H Q ⟨w, l, h, ds, l', s, sl, r, e, q⟩ => by
  unfold nilG at e
  split at e
  · cases e
    cases (show vs = [] from r)
    exact ⟨rfl, q σ sl (Off.refl _ _)⟩
  · cases e
theorem mgs_cons {tg : Expr} {tgs : List Expr} {ix ixs : List Nat} {g : D → L → Option L} {gs : List D → L → Option L} (h1 : MG X tg ix g) (h2 : MGs X tgs ixs gs) (hs : (assignEach (tg :: tgs) X.env).map (·.2) = assign tg X.env :: (assignEach tgs X.env).map (·.2) := by rfl) :
    MGs X (tg :: tgs) (ix ++ ixs) (consG g gs) := PGs.weak (pgs_cons h1 h2 hs) fun vs σ H Q ⟨w, l, h, ds, l', s, sl, r, e, q⟩ => by
  unfold consG at e
  split at e
  · rename_i d ds
    obtain ⟨l1, e1, e2⟩ := Option.bind_eq_some_iff.mp e
    obtain ⟨v, vs', rfl, r1, rs⟩ := r
    refine ⟨v, vs', rfl, w, l, h, d, l1, s, sl, r1, e1, fun σ1 sl1 o1 => ⟨w, l1, h, ds, l', s, sl1, rs, e2, fun σ2 sl2 o2 => q σ2 sl2 ⟨o2.1.trans o1.1, fun j hj => ?_⟩⟩⟩
    rw [List.mem_append, not_or] at hj
    rw [o2.2 j hj.2, o1.2 j hj.1]
  · cases e
def tupG (n : Nat) (gs : List D → L → Option L) : D → L → Option L := fun d l => match d with
  | .tup ds => if ds.length = n then gs ds l else none
  | _ => none
theorem mg_tup (n : Nat) {tgs : List Expr} {k : Nat} {ix : List Nat} {gs : List D → L → Option L} (hc : X.calm = true) (h : MGs X tgs ix gs) (hn : (assignEach tgs X.env).length = n := by rfl) (hst : (assignEach tgs X.env).findIdx? (·.1) = none := by rfl) :
    MG X (.Tuple tgs k pos) ix (tupG n gs) := PG.weak (pg_tup hc h hn hst) fun v σ H Q ⟨w, l, h, d, l', s, sl, r, e, q⟩ => by
  unfold tupG at e
  split at e
  · rename_i ds
    split at e
    · rename_i hl
      obtain ⟨a, vs, rfl, sq, _, rv⟩ := r
      exact ⟨a, vs, rfl, SqT.le s.fx sq, by rw [rv.length]; exact hl, w, l, h, ds, l', s, sl, rv, e, q⟩
    · cases e
  · cases e
/-- target = e -/
def asgS (m : L → M D) (g : D → L → Option L) : S := bindS m fun d l h => match g d l with
  | some l' => .ok (.nx l') h
  | none => .bad
theorem asg_read {ix : List Nat} {g : D → L → Option L} {E : Ends} {σ : St} {H : Hp} (t : tS X.K X.mg W (asgS me g) E σ H) : tAsg (tG X.K X.mg W (RV X.K) me) (tGt X.K ix g) E σ H := by
  obtain ⟨w, l, h, s, sl, r⟩ := t
  refine tG_mono (fun x H1 ⟨w1, d, h1, l1, s1, k1, rx, r1⟩ => ?_) (bindS_read s sl r)
  cases eg : g d l with
  | none => simp only [eg] at r1; exact r1.elim
  | some l' =>
    simp only [eg] at r1
    exact ⟨w1, l, h1, d, l', s1, sl.le l1, rx, eg, fun σ' sl' _ => r1 w1 H1 σ' w1.le_refl s1 (Keep.refl _ _ _) sl'⟩
theorem ms_asg {tg : Expr} {ix : List Nat} {g : D → L → Option L} (he : ME X W e me) (hg : MG X tg ix g) (hs : swapsWithSole [tg] e pos.line X.env = pure false := by rfl) (hw : swappedStores [tg] e X.env = pure none := by rfl)
    (h1 : (assignEach [tg] X.env).map (·.2) = [assign tg X.env] := by rfl) : MS X W (.Assign [tg] e pos) (asgS me g) := PS.weak (ps_asg he hg hs hw h1) fun E σ H t => asg_read t
def setS (i : Nat) (m : L → M D) : S := bindS m fun d l h => .ok (.nx (l.set i (some d))) h
theorem ms_set (i : Nat) {x : Str} {pos' : Pos} (hN : X.N.Nodup) (he : ME X W e me) (hi : X.N[i]? = some x := by rfl) (hx : Loc X.env.scope x := by first | exact Or.inl rfl | exact Or.inr rfl) (hs : swapsWith e (some (.Name x pos')) pos.line X.env = pure false := by rfl)
    (hf : X.fn x = true ∨ X.env.scope.names.lookup x = some .local := by first | exact .inl rfl | exact .inr rfl | assumption) : MS X W (.Assign [.Name x pos'] e pos) (setS i me) :=
  PS.weak (ps_set hN hi hx he hs hf) fun E σ H ⟨w, l, h, s, sl, r⟩ =>
    tG_mono (fun x H1 ⟨w1, d, h1, l1, s1, k1, rx, r1⟩ => ResS.next r1 s1 ((sl.le l1).set rx i)) (bindS_read s sl r)
/-- a, b = e1, e2 -/
def parS (i j : Nat) (mr : L → M (List D)) : S := bindS mr fun ds l h => match ds with
  | [x, y] => .ok (.nx ((l.set i (some x)).set j (some y))) h
  | _ => .bad
theorem ms_par (i j : Nat) {x y : Str} {ta : L → M (List D)} {px py pt : Pos} {kt k2 pt2} (hc : X.calm = true) (hN : X.N.Nodup) (ha : MA X W [a, b] ta) (hi : X.N[i]? = some x := by rfl) (hj : X.N[j]? = some y := by rfl) (hij : i ≠ j := by decide)
    (hx : X.env.scope.names.lookup x = some .local := by rfl) (hy : X.env.scope.names.lookup y = some .local := by rfl)
    (hw : swappedStores [.Tuple [.Name x px, .Name y py] kt pt] (.Tuple [a, b] k2 pt2) X.env = pure (some [x, y]) := by rfl)
    (hs : swapsWithSole [.Tuple [.Name x px, .Name y py] kt pt] (.Tuple [a, b] k2 pt2) pos.line X.env = pure false := by rfl) : MS X W (.Assign [.Tuple [.Name x px, .Name y py] kt pt] (.Tuple [a, b] k2 pt2) pos) (parS i j ta) :=
  PS.weak (ps_par hc hN hi hj hij hx hy ha hw hs) fun E σ H ⟨w, l, h, s, sl, r⟩ =>
    tG_mono (fun x H1 ⟨w1, ds, h1, l1, s1, k1, rx, r1⟩ => by
      split at r1
      · rename_i x y
        obtain ⟨v, _, rfl, r2, u, _, rfl, r3, rfl⟩ := rx
        exact ⟨v, u, rfl, ResS.next r1 s1 (((sl.le l1).set r2 i).set r3 j)⟩
      · exact r1.elim) (bindS_read s sl r)
end
end Mz

namespace Mz
open PySem L2
/-! ### what is walked -/
structure Yl (K : PySem.W.Frag) (w : Wd) (ds : List D) (J : It) : Prop where
  sz : ds.length ≤ sizeLine
  turn : ∀ (i : Nat) (w' : Wd) (h' : Hc) (H' : Hp), w.le w' → Sim K w' h' H' → (i < ds.length → J.go i H') ∧ (ds.length ≤ i → J.stop i H') ∧
    ∀ x H'', i < ds.length → J.yld i H' x H'' → ∃ w'' d, w'.le w'' ∧ Sim K w'' h' H'' ∧ Keep w' h' H' w'' h' H'' ∧ ds[i]? = some d ∧ RV K w'' d x
def MI (X : Cx) (W : WX') (tg iter : Expr) (m : L → M (List D)) : Prop := PI X tg iter (tG X.K X.mg W (Yl X.K) m)
section
variable {X : Cx} {W : WX'} {a b e c tg iter : Expr} {ma mb me : L → M D} {mi : L → M (List D)} {tc : L → M Bool} {pos : Pos} {st : Stmt} {rest : List Stmt} {m m' : S}
theorem PI.weak {wi wi' : TI} (h : PI X tg iter wi) (k : ∀ σ H Q, wi' σ H Q → wi σ H Q) : PI X tg iter wi' := ⟨fun pins s σ H Q I q => h.run pins s σ H Q I (k σ H Q q)⟩
theorem PI.or {wi wi' : TI} (h : PI X tg iter wi) (h' : PI X tg iter wi') : PI X tg iter (fun σ H Q => wi σ H Q ∨ wi' σ H Q) := ⟨fun pins s σ H Q I q => q.elim (h.run pins s σ H Q I) (h'.run pins s σ H Q I)⟩
def itemsD : D → Option (List D)
  | .str z => some (z.map fun c => .str [c])
  | .tup ds => some ds
  | .lst ds => some ds
  | .arg ds => some ds
  | _ => none
def itV (m : L → M D) : L → M (List D) := fun l => (m l).bind fun x => rdo fun _ => itemsD x
theorem yl_str {K : PySem.W.Frag} {w : Wd} {z : List Nat} (z1 : z.length ≤ sizeLine) (z2 : z.all (fun c => decide (c < 0x110000)) = true) : Yl K w (z.map fun c => .str [c]) (Its (cs z)) := by
  refine ⟨by simpa using z1, fun i w' h' H' l s => ⟨fun hi => ?_, fun hi => ?_, fun x H'' hi ⟨e, c, ec, ex⟩ => ?_⟩⟩
  · show i < (cs z).cps.size
    simpa [cs] using hi
  · show (cs z).cps.size ≤ i
    simpa [cs] using hi
  · subst e ex
    have ec' : z[i]? = some c := by simpa [cs] using ec
    refine ⟨w', .str [c], w'.le_refl, s, Keep.refl _ _ _, by rw [List.getElem?_map, ec']; rfl, rfl, by show 1 ≤ sizeLine; decide, ?_⟩
    have := List.all_eq_true.mp z2 c (List.mem_of_getElem? ec')
    simpa using this
theorem SqT.inj' {K : PySem.W.Frag} {H : Hp} {a : Addr} {xs ys : List V} (h : SqT K H a xs) (nk : K.lookup a = none) (h' : SqT K H a ys) : xs = ys := by
  rcases h with (h | ⟨o, h⟩) | ⟨o, _, _, hk, _⟩
  · rcases h' with (h' | ⟨o, h'⟩) | ⟨o, _, _, hk, _⟩
    · rw [h] at h'; cases h'; rfl
    · rw [h] at h'; cases h'
    · rw [nk] at hk; cases hk
  · rcases h' with (h' | ⟨o, h'⟩) | ⟨o, _, _, hk, _⟩
    · rw [h] at h'; cases h'
    · rw [h] at h'; cases h'; rfl
    · rw [nk] at hk; cases hk
  · rw [nk] at hk; cases hk
theorem yl_tup {K : PySem.W.Frag} {w : Wd} {ds : List D} {a : Addr} {vs : List V} (q : SqT K w.F a vs) (z : ds.length ≤ sizeLine) (rv : RVs K w ds vs) : Yl K w ds (Itt K a) := by
  refine ⟨z, fun i w' h' H' l s => ?_⟩
  have q' : SqT K H' a vs := SqT.le s.fx (SqT.le l.2 q)
  refine ⟨fun hi => ?_, fun hi => ⟨vs, q', by rw [rv.length]; exact hi⟩, fun x H'' hi ⟨e, hx⟩ => ?_⟩
  · have : i < vs.length := by rw [rv.length]; exact hi
    exact ⟨vs, vs[i], q', List.getElem?_eq_getElem this⟩
  · subst e
    obtain ⟨d, ed, rd⟩ := (rv.le l).get (hx vs q')
    exact ⟨w', d, w'.le_refl, s, Keep.refl _ _ _, ed, rd⟩
theorem yl_lst {K : PySem.W.Frag} {w : Wd} {ds : List D} {a : Addr} {vs : List V} (q : SqL K w.F a vs) (z : ds.length ≤ sizeLine) (rv : RVs K w ds vs) : Yl K w ds (Itl K a) := by
  refine ⟨z, fun i w' h' H' l s => ?_⟩
  have q' : SqL K H' a vs := SqL.le s.fx (SqL.le l.2 q)
  refine ⟨fun hi => ?_, fun hi => ⟨vs, q', by rw [rv.length]; exact hi⟩, fun x H'' hi ⟨e, hx⟩ => ?_⟩
  · have : i < vs.length := by rw [rv.length]; exact hi
    exact ⟨vs, vs[i], q', List.getElem?_eq_getElem this⟩
  · subst e
    obtain ⟨d, ed, rd⟩ := (rv.le l).get (hx vs q')
    exact ⟨w', d, w'.le_refl, s, Keep.refl _ _ _, ed, rd⟩
/-- for x in e: a text, a tuple, a list that stands still -/
theorem mi_of (ha : ME X W a ma) : MI X W tg a (itV ma) :=
  PI.weak (PI.or (pi_str ha) (PI.or (pi_tup ha) (pi_list ha))) fun σ H Q ⟨w, l, h, s, sl, r⟩ => by
    have q := tG_bind (repA := RV X.K) (m := ma) s sl r
    unfold itV M.bind at r
    cases e : ma l h with
    | bad => rw [e] at r; exact r.elim
    | exc c d h' => rw [e] at r; exact .inl ⟨w, l, h, s, sl, by rw [e]; exact r⟩
    | ok d h' =>
      rw [e] at r
      have r : Res X.K X.mg (Yl X.K) w h H σ W Q (rdo (fun _ => itemsD d) h') := r
      have key : ∀ {P : VK}, (∀ w1 H1 x, w.le w1 → Sim X.K w1 h' H1 → Keep w h H w1 h' H1 → RV X.K w1 d x → P x H1) → tG X.K X.mg W (RV X.K) ma σ H P := fun k => ⟨w, l, h, s, sl, by rw [e]; exact k⟩
      have fin : ∀ {w1 : Wd} {H1 : Hp} {ds : List D} {J : It}, w.le w1 → Sim X.K w1 h' H1 → Keep w h H w1 h' H1 → itemsD d = some ds → Yl X.K w1 ds J → Q J H1 := fun {w1 H1 ds J} l1 s1 k1 ei y => by
        unfold rdo at r
        simp only [ei] at r
        exact r w1 H1 J l1 s1 k1 y
      cases d with
      | str z =>
        refine .inl (key fun w1 H1 x l1 s1 k1 ⟨ex, z1, z2⟩ => ⟨cs z, ex, fin l1 s1 k1 rfl (yl_str z1 z2)⟩)
      | tup ds =>
        refine .inr (.inl (key fun w1 H1 x l1 s1 k1 ⟨a, vs, ex, q, z, rv⟩ => ⟨a, ex, ⟨vs, SqT.le s1.fx q⟩, fin l1 s1 k1 rfl (yl_tup q z rv)⟩))
      | lst ds =>
        refine .inr (.inr (key fun w1 H1 x l1 s1 k1 ⟨a, vs, ex, q, z, rv⟩ => ⟨a, ex, ⟨vs, SqL.of (s1.fx _ _ q)⟩, fin l1 s1 k1 rfl (yl_lst (SqL.of q) z rv)⟩))
      | arg ds =>
        refine .inr (.inr (key fun w1 H1 x l1 s1 k1 ⟨a, vs, ex, q, z, rv⟩ => ⟨a, ex, ⟨vs, SqL.le s1.fx q⟩, fin l1 s1 k1 rfl (yl_lst q z rv)⟩))
      | _ => exact r.elim
def rngs (lo : Int) (n : Nat) : List D := (List.range n).map fun i => .int (lo + (i : Nat))
def rng1 (ds : List D) : Option (List D) := match ds with
  | [.int j] => if -(2 ^ 62) ≤ j ∧ j < 2 ^ 62 ∧ j.toNat ≤ sizeLine then some (rngs 0 j.toNat) else none
  | _ => none
def rng2 (ds : List D) : Option (List D) := match ds with
  | [.int i, .int j] => if (-(2 ^ 62) ≤ i ∧ i < 2 ^ 62 ∧ -(2 ^ 62) ≤ j ∧ j < 2 ^ 62) ∧ (j - i).toNat ≤ sizeLine then some (rngs i (j - i).toNat) else none
  | _ => none
theorem yl_rng {K : PySem.W.Frag} {w : Wd} {lo : Int} {n : Nat} (z : n ≤ sizeLine) : Yl K w (rngs lo n) (Itr lo n) := by
  refine ⟨by simpa [rngs] using z, fun i w' h' H' l s => ⟨fun hi => ?_, fun hi => ?_, fun x H'' hi ⟨e, ex⟩ => ?_⟩⟩
  · show i < n
    simpa [rngs] using hi
  · show n ≤ i
    simpa [rngs] using hi
  · subst e ex
    have hi : i < n := by simpa [rngs] using hi
    exact ⟨w', .int (lo + i), w'.le_refl, s, Keep.refl _ _ _, by simp [rngs, hi], rfl⟩
def argsV {α : Type} (f : List D → Option α) (mr : L → M (List D)) : L → M α := fun l => (mr l).bind fun ds => rdo fun _ => f ds
theorem mi_range1 {mr : L → M (List D)} {p : Pos} (hg : Gl X "range") (hm : X.mg "range" = none) (ha : MA X W [a] mr) (hs : starEach [a] X.env = [(false, eval a X.env)] := by rfl) : MI X W tg (.Call (.Name "range" p) [a] [] pos) (argsV rng1 mr) :=
  PI.weak (pi_range1 hg hm ha hs) fun σ H Q ⟨w, l, h, s, sl, r⟩ => by
    refine tG_mono (fun vs H1 ⟨w1, ds, h1, l1, s1, k1, rv, r1⟩ => ?_) (tG_bind s sl r)
    obtain ⟨its, ei, k⟩ := r1.rdo
    unfold rng1 at ei
    split at ei
    · split at ei
      · rename_i j hj
        cases ei
        obtain ⟨v, _, rfl, rfl, rfl⟩ := rv
        exact ⟨_, rfl, hj.1, hj.2.1, k w1 H1 _ w1.le_refl s1 (Keep.refl _ _ _) (yl_rng hj.2.2)⟩
      · cases ei
    · cases ei
theorem mi_range2 {mr : L → M (List D)} {p : Pos} (hg : Gl X "range") (hm : X.mg "range" = none) (ha : MA X W [a, b] mr) (hs : starEach [a, b] X.env = [(false, eval a X.env), (false, eval b X.env)] := by rfl) (hs2 : starEach [b] X.env = [(false, eval b X.env)] := by rfl) :
    MI X W tg (.Call (.Name "range" p) [a, b] [] pos) (argsV rng2 mr) :=
  PI.weak (pi_range2 hg hm ha hs hs2) fun σ H Q ⟨w, l, h, s, sl, r⟩ => by
    refine tG_mono (fun vs H1 ⟨w1, ds, h1, l1, s1, k1, rv, r1⟩ => ?_) (tG_bind s sl r)
    obtain ⟨its, ei, k⟩ := r1.rdo
    unfold rng2 at ei
    split at ei
    · split at ei
      · rename_i i j hj
        cases ei
        obtain ⟨v, _, rfl, rfl, u, _, rfl, rfl, rfl⟩ := rv
        exact ⟨_, _, rfl, hj.1, k w1 H1 _ w1.le_refl s1 (Keep.refl _ _ _) (yl_rng hj.2)⟩
      · cases ei
    · cases ei

/-! ### for -/
def forL (g : D → L → Option L) (body : S) : List D → L → Hc → RS
  | [], l, h => .ok (.nx l) h
  | d :: ds, l, h => match g d l with
    | none => .bad
    | some l1 => match body l1 h with
      | .ok (.nx l2) h2 => forL g body ds l2 h2
      | .ok (.ct l2) h2 => forL g body ds l2 h2
      | .ok (.bk l2) h2 => .ok (.nx l2) h2
      | r => r
def forS (mi : L → M (List D)) (g : D → L → Option L) (body : S) : S := bindS mi fun ds => forL g body ds
theorem ms_for {body : List Stmt} {ix : List Nat} {g : D → L → Option L} (hp : PassesOwn (model X.prog X.w) X.A X.env X.xe) (hc : X.calm = true) (hi : MI X W tg iter mi) (hg : MG X tg ix g) (hb : MSs X W body m)
    (hs : ∀ x, foldedSetIterable iter X.env x = pure x := by intro _; rfl) : MS X W (.For tg iter body [] pos) (forS mi g m) :=
  PS.weak (ps_for hp hc hi hg hb hs) fun E σ H ⟨w, l, h, s, sl, r⟩ => by
    refine tG_mono (fun J H1 ⟨w1, ds, h1, l1, s1, k1, y, r1⟩ => ?_) (bindS_read s sl r)
    refine ⟨fun i n σ' H' => n = ds.length - i ∧ i ≤ ds.length ∧ ∃ w' l' h', w1.le w' ∧ Sim X.K w' h' H' ∧ SimL X.K w' l' σ' ∧ ResS X.K X.mg w' h' H' W E (forL g m (ds.drop i) l' h'), ⟨ds.length, rfl, Nat.zero_le _, w1, l, h1, w1.le_refl, s1, sl.le l1, r1⟩, ?_⟩
    rintro i n σ' H' ⟨rfl, hi, w', l', h', le', s', sl', r'⟩
    obtain ⟨y1, y2, y3⟩ := y.turn i w' h' H' le' s'
    by_cases hlt : i < ds.length
    · refine .inr ⟨y1 hlt, fun σ2 H2 => ∃ w2 l2 h2, w1.le w2 ∧ Sim X.K w2 h2 H2 ∧ SimL X.K w2 l2 σ2 ∧ ResS X.K X.mg w2 h2 H2 W E (forL g m (ds.drop (i + 1)) l2 h2), fun σ2 H2 q => ⟨ds.length - (i + 1), by omega, rfl, hlt, q⟩, fun x H2 hy => ?_⟩
      obtain ⟨w2, d, le2, s2, k2, ed, rd⟩ := y3 x H2 hlt hy
      have e1 : ds.drop i = d :: ds.drop (i + 1) := by
        rw [List.drop_eq_getElem_cons hlt]
        congr 1
        have := List.getElem?_eq_some_iff.mp ed
        exact this.2
      rw [e1] at r'
      unfold forL at r'
      cases eg : g d l' with
      | none => simp only [eg] at r'; exact r'.elim
      | some l2 =>
        simp only [eg] at r'
        refine ⟨w2, l', h', d, l2, s2, sl'.le le2, rd, eg, fun σ2 sl2 _ => ⟨w2, l2, h', s2, sl2, ?_⟩⟩
        have r2 := ResS.le le2 k2 r'
        cases eb : m l2 h' with
        | bad => rw [eb] at r2; exact r2
        | exc c d l3 h3 => rw [eb] at r2; exact r2
        | ok f h3 =>
          rw [eb] at r2
          cases f with
          | nx l3 => exact fun w3 H3 σ3 le3 s3 k3 sl3 => ⟨w3, l3, h3, le'.trans (le2.trans le3), s3, sl3, ResS.le le3 k3 r2⟩
          | ct l3 => exact fun w3 H3 σ3 le3 s3 k3 sl3 => ⟨w3, l3, h3, le'.trans (le2.trans le3), s3, sl3, ResS.le le3 k3 r2⟩
          | bk l3 => exact r2
          | rt d => exact r2
    · have e1 : ds.drop i = [] := List.drop_eq_nil_of_le (by omega)
      rw [e1] at r'
      exact .inl ⟨y2 (by omega), ResS.next r' s' sl'⟩

/-! ### list comprehensions -/
def wipeL (l : L) : List Nat → L
  | [] => l
  | v :: vs => (wipeL l vs).set v none
theorem SimL.wipe {K : PySem.W.Frag} {w : Wd} {l : L} {σ : St} (s : SimL K w l σ) : ∀ vs : List Nat, SimL K w (wipeL l vs) (L2.wipe σ vs)
  | [] => s
  | v :: vs => by
    have ih := SimL.wipe s vs
    refine ⟨by show ((wipeL l vs).set v none).length = ((L2.wipe σ vs).set v none).length; simp [ih.1], fun j d e => ?_⟩
    have e : ((wipeL l vs).set v none)[j]? = some (some d) := e
    show ∃ u, ((L2.wipe σ vs).set v none)[j]? = some (some u) ∧ _
    by_cases hj : v = j
    · subst hj
      by_cases hl : v < (wipeL l vs).length
      · rw [List.getElem?_set_self hl] at e; cases e
      · rw [List.getElem?_eq_none (by simpa using hl)] at e; cases e
    · rw [List.getElem?_set_ne hj] at e ⊢
      exact ih.2 j d e
theorem wipe_get {σ : St} {j : Nat} : ∀ {vs : List Nat}, (L2.wipe σ vs)[j]? = if j ∈ vs then (σ[j]?.map fun _ => none) else σ[j]?
  | [] => by simp [L2.wipe]
  | v :: vs => by
    unfold L2.wipe
    by_cases hj : v = j
    · subst hj
      rw [if_pos (by simp)]
      by_cases hl : v < (L2.wipe σ vs).length
      · rw [List.getElem?_set_self hl]
        have : v < σ.length := by rw [wipe_length] at hl; exact hl
        rw [List.getElem?_eq_getElem this]; rfl
      · rw [List.getElem?_eq_none (by simpa using hl)]
        have : ¬ v < σ.length := by rw [wipe_length] at hl; exact hl
        rw [List.getElem?_eq_none (by omega), Option.map_none]
    · rw [List.getElem?_set_ne hj, wipe_get (vs := vs)]
      have : j ∈ v :: vs ↔ j ∈ vs := by simp [Ne.symm hj]
      simp only [this]
theorem wipe_off {ix vs : List Nat} {σ σ' : St} (sub : ∀ j ∈ ix, j ∈ vs) (o : Off ix (L2.wipe σ vs) σ') : L2.wipe σ' vs = L2.wipe σ vs := by
  apply List.ext_getElem?
  intro j
  rw [wipe_get, wipe_get]
  by_cases hj : j ∈ vs
  · rw [if_pos hj, if_pos hj]
    have := o.1
    rw [wipe_length] at this
    by_cases hl : j < σ.length
    · rw [List.getElem?_eq_getElem hl, List.getElem?_eq_getElem (by omega)]; rfl
    · rw [List.getElem?_eq_none (by omega), List.getElem?_eq_none (by omega)]
  · rw [if_neg hj, if_neg hj, o.2 j fun z => hj (sub j z), wipe_get, if_neg hj]
def MTs (X : Cx) (W : WX') (ifs : List Expr) (m : L → M Bool) : Prop := PTs X ifs (tG X.K X.mg W repB m)
theorem PTs.weak {ifs : List Expr} {t t' : TT} (h : PTs X ifs t) (k : ∀ σ H Q, t' σ H Q → t σ H Q) : PTs X ifs t' := ⟨fun pins s σ H Q I q => h.run pins s σ H Q I (k σ H Q q)⟩
def yesT : L → M Bool := fun _ h => .ok true h
theorem mts_nil : MTs X W [] yesT := PTs.weak pts_nil fun σ H Q ⟨w, l, h, s, sl, r⟩ => Res.stay (v := true) r s rfl
theorem mts_one (h : MT X W c tc) : MTs X W [c] tc := pts_one h
def lcL (g : D → L → Option L) (tt : L → M Bool) (te : L → M D) (l0 : L) : List D → Hc → Option (List D × Hc)
  | [], h => some ([], h)
  | d :: ds, h => match g d l0 with
    | none => none
    | some l1 => match tt l1 h with
      | .ok true h1 => match te l1 h1 with
        | .ok y h2 => (lcL g tt te l0 ds h2).map fun (ys, h3) => (y :: ys, h3)
        | _ => none
      | .ok false h1 => lcL g tt te l0 ds h1
      | _ => none
def lcV (mi : L → M (List D)) (g : D → L → Option L) (tt : L → M Bool) (te : L → M D) (vs : List Nat) : L → M D := fun l => (mi l).bind fun ds => fun h => match lcL g tt te (wipeL l vs) ds h with
  | some (ys, h') => .ok (.lst ys) h'
  | none => .bad
/-- what is wanted of the rest of a comprehension -/
def LcR (K : PySem.W.Frag) (w : Wd) (h : Hc) (H : Hp) (Q : VK) (acc : List D) : Option (List D × Hc) → Prop
  | some (ys, h') => ∀ w' H' v, w.le w' → Sim K w' h' H' → Keep w h H w' h' H' → RV K w' (.lst (acc ++ ys)) v → Q v H'
  | none => False
theorem lc_read {ix vs : List Nat} {g : D → L → Option L} {tt : L → M Bool} {te : L → M D} {σ : St} {H : Hp} {Q : VK} (sub : ∀ j ∈ ix, j ∈ vs) (t : tG X.K X.mg W (RV X.K) (lcV mi g tt te vs) σ H Q) :
    tLc (tG X.K X.mg W (Yl X.K) mi) (tGt X.K ix g) (tG X.K X.mg W repB tt) (tG X.K X.mg W (RV X.K) te) vs σ H Q := by
  obtain ⟨w, l, h, s, sl, r⟩ := t
  refine tG_mono (fun J H1 ⟨w1, ds, h1, l1, s1, k1, y, r1⟩ => ?_) (tG_bind s sl r)
  intro D hD
  have oD : Out w1 h1 D := s1.out hD
  have sD : Sim X.K w1 h1 (upd H1 D (.lst [])) := s1.extra oD
  have ne : ∀ a o, H1 a = some o → a ≠ D := fun a o e => ne_of_none e hD
  have fin : LcR X.K w1 h1 H1 Q [] (lcL g tt te (wipeL l vs) ds h1) := by
    cases e : lcL g tt te (wipeL l vs) ds h1 with
    | some p => simp only [e] at r1; exact r1
    | none => simp only [e] at r1; exact r1
  refine ⟨fun i n H' => n = ds.length - i ∧ i ≤ ds.length ∧ ∃ w' h' acc accV, w1.le w' ∧ Sim X.K w' h' H' ∧ Out w' h' D ∧ H' D = some (.lst accV) ∧ RVs X.K w' acc accV ∧ acc.length ≤ i ∧ Keep w1 h1 H1 w' h' H' ∧ LcR X.K w1 h1 H1 Q acc (lcL g tt te (wipeL l vs) (ds.drop i) h'),
    ⟨ds.length, rfl, Nat.zero_le _, w1, h1, [], [], w1.le_refl, sD, oD, upd_same, rfl, Nat.le_refl _, fun a o e q => ⟨by rw [upd_ne (ne a o e)]; exact e, q⟩, fin⟩, ?_⟩
  rintro i n H' ⟨rfl, hi, w', h', acc, accV, le', s', o', eD, rv, hacc, kp, fr⟩
  obtain ⟨y1, y2, y3⟩ := y.turn i w' h' H' le' s'
  by_cases hlt : i < ds.length
  · refine .inr ⟨y1 hlt, fun H2 => ∃ w2 h2 acc2 accV2, w1.le w2 ∧ Sim X.K w2 h2 H2 ∧ Out w2 h2 D ∧ H2 D = some (.lst accV2) ∧ RVs X.K w2 acc2 accV2 ∧ acc2.length ≤ i + 1 ∧ Keep w1 h1 H1 w2 h2 H2 ∧ LcR X.K w1 h1 H1 Q acc2 (lcL g tt te (wipeL l vs) (ds.drop (i + 1)) h2),
      fun H2 q => ⟨ds.length - (i + 1), by omega, rfl, hlt, q⟩, fun x H2 hy => ?_⟩
    obtain ⟨w2, d, le2, s2, k2, ed, rd⟩ := y3 x H2 hlt hy
    obtain ⟨eD2, o2⟩ := k2 D _ eD o'
    have e1 : ds.drop i = d :: ds.drop (i + 1) := by
      rw [List.drop_eq_getElem_cons hlt]
      congr 1
      exact (List.getElem?_eq_some_iff.mp ed).2
    rw [e1] at fr
    unfold lcL at fr
    cases eg : g d (wipeL l vs) with
    | none => simp only [eg] at fr; exact fr.elim
    | some l2 =>
      simp only [eg] at fr
      refine ⟨w2, wipeL l vs, h', d, l2, s2, ((sl.le l1).wipe vs).le (le'.trans le2), rd, eg, fun σ2 sl2 off => ⟨wipe_off sub off, w2, l2, h', s2, sl2, ?_⟩⟩
      cases et : tt l2 h' with
      | bad => simp only [et] at fr; exact fr.elim
      | exc c d h3 => simp only [et] at fr; exact fr.elim
      | ok bb h3 =>
        intro w3 H3 v le3 s3 k3 ev
        cases ev
        obtain ⟨eD3, o3⟩ := k3 D _ eD2 o2
        have kp3 := (kp.trans k2).trans k3
        cases bb with
        | false =>
          simp only [et] at fr
          rw [if_neg Bool.false_ne_true]
          exact ⟨w3, h3, acc, accV, (le'.trans le2).trans le3, s3, o3, eD3, rv.le (le2.trans le3), by omega, kp3, fr⟩
        | true =>
          simp only [et] at fr
          rw [if_pos rfl]
          refine ⟨w3, l2, h3, s3, sl2.le le3, ?_⟩
          cases ee : te l2 h3 with
          | bad => simp only [ee] at fr; exact fr.elim
          | exc c d h3 => simp only [ee] at fr; exact fr.elim
          | ok yd h4 =>
            simp only [ee] at fr
            intro w4 H4 yv le4 s4 k4 ry
            obtain ⟨eD4, o4⟩ := k4 D _ eD3 o3
            have kp4 := kp3.trans k4
            have lacc := rv.length
            refine ⟨accV, eD4, by have := y.sz; omega, w4, h4, acc ++ [yd], accV ++ [yv], ((le'.trans le2).trans le3).trans le4, s4.extra o4, o4, upd_same, (rv.le ((le2.trans le3).trans le4)).append ⟨yv, [], rfl, ry, rfl⟩, by simp; omega, fun a o e q => ?_, ?_⟩
            · obtain ⟨e5, o5⟩ := kp4 a o e q
              exact ⟨by rw [upd_ne (ne a o e)]; exact e5, o5⟩
            · cases er : lcL g tt te (wipeL l vs) (ds.drop (i + 1)) h4 with
              | none => simp only [er, Option.map_none] at fr; exact fr.elim
              | some p =>
                simp only [er, Option.map_some] at fr
                show ∀ w' H' v, _
                intro w5 H5 v a1 a2 a3 a4
                exact fr w5 H5 v a1 a2 a3 (by rw [List.append_assoc] at a4; exact a4)
  · have e1 : ds.drop i = [] := List.drop_eq_nil_of_le (by omega)
    rw [e1] at fr
    obtain ⟨s2, le2⟩ := s'.own o' eD
    refine .inl ⟨y2 (by omega), fr _ _ _ (le'.trans le2) s2 (fun a o e q => ?_) ⟨D, accV, rfl, upd_same, ?_, by rw [List.append_nil]; exact rv.le le2⟩⟩
    · obtain ⟨e5, o5⟩ := kp a o e q
      exact ⟨e5, by show upd w'.F D (.lst accV) a = none; rw [upd_ne (ne a o e)]; exact o5.1, o5.2⟩
    · rw [List.append_nil]
      have := y.sz
      omega
theorem me_lc (own : List (Str × Nat)) (vs : List Nat) {elt : Expr} {ifs : List Expr} {scope : Scope} {ix : List Nat} {g : D → L → Option L} {tt : L → M Bool} {te : L → M D} (hc : X.calm = true) (hN : X.N.Nodup) (hi : MI X W tg iter mi) (ok : BlkOk X.N X.env.scope scope own)
    (hg : ∀ (s : Shared) (H : Hp) (C : Addr) (cl : List (Str × Addr)) (fp : List Addr), MG (X.blk s H scope (compEnvC scope cl C X.env) fp) tg ix g) (ht : ∀ (s : Shared) (H : Hp) (C : Addr) (cl : List (Str × Addr)) (fp : List Addr), MTs (X.blk s H scope (compEnvC scope cl C X.env) fp) W ifs tt)
    (he : ∀ (s : Shared) (H : Hp) (C : Addr) (cl : List (Str × Addr)) (fp : List Addr), ME (X.blk s H scope (compEnvC scope cl C X.env) fp) W elt te) (hv : own.map (·.2) = vs := by rfl) (sub : ∀ j ∈ ix, j ∈ vs := by decide) (hs : ∀ x, foldedSetIterable iter X.env x = pure x := by intro _; rfl) :
    ME X W (.ListComp elt [⟨tg, iter, ifs, 0⟩] scope pos) (lcV mi g tt te vs) := by
  subst hv
  exact PE.weak (pe_lc (g := tGt X.K ix g) (tt := tG X.K X.mg W repB tt) (te := tG X.K X.mg W (RV X.K) te) hc hN hi ok hg ht he hs) fun σ H Q t => lc_read sub t
theorem ms_setLc (own : List (Str × Nat)) (vs : List Nat) (i : Nat) {y : Str} {py spos : Pos} {elt : Expr} {ifs : List Expr} {scope : Scope} {ix : List Nat} {g : D → L → Option L} {tt : L → M Bool} {te : L → M D} (hc : X.calm = true) (hN : X.N.Nodup)
    (hi : MI X W tg iter mi) (ok : BlkOk X.N X.env.scope scope own)
    (hg : ∀ (s : Shared) (H : Hp) (C : Addr) (cl : List (Str × Addr)) (fp : List Addr), MG (X.blk s H scope (compEnvC scope cl C X.env) fp) tg ix g) (ht : ∀ (s : Shared) (H : Hp) (C : Addr) (cl : List (Str × Addr)) (fp : List Addr), MTs (X.blk s H scope (compEnvC scope cl C X.env) fp) W ifs tt)
    (he : ∀ (s : Shared) (H : Hp) (C : Addr) (cl : List (Str × Addr)) (fp : List Addr), ME (X.blk s H scope (compEnvC scope cl C X.env) fp) W elt te)
    (hsw : swapsWith (.ListComp elt [⟨tg, iter, ifs, 0⟩] scope pos) (some (.Name y py)) spos.line X.env = pure true)
    (hy : X.N[i]? = some y := by rfl) (hyl : X.env.scope.names.lookup y = some .local := by rfl) (hv : own.map (·.2) = vs := by rfl) (sub : ∀ j ∈ ix, j ∈ vs := by decide) (hs : ∀ x, foldedSetIterable iter X.env x = pure x := by intro _; rfl) :
    MS X W (.Assign [.Name y py] (.ListComp elt [⟨tg, iter, ifs, 0⟩] scope pos) spos) (setS i (lcV mi g tt te vs)) := by
  subst hv
  exact PS.weak (ps_setLc (g := tGt X.K ix g) (tt := tG X.K X.mg W repB tt) (te := tG X.K X.mg W (RV X.K) te) hc hN hy hyl hsw hi ok hg ht he hs) fun E σ H ⟨w, l, h, s, sl, r⟩ => by
    refine lc_read sub (tG_mono (fun x H1 ⟨w1, d, h1, l1, s1, k1, rx, r1⟩ => ?_) (bindS_read s sl r))
    exact ResS.next r1 s1 ((sl.le l1).set rx i)
end
end Mz

namespace Mz
open PySem L2
abbrev W0 : WX' := fun _ _ _ _ => False
def safe {α : Type} (m : M α) : M α := fun h => match m h with
  | .ok a h' => .ok a h'
  | _ => .bad
/-- a def's body as a function of its arguments -/
def bodyM (n N : Nat) (m : S) : List D → M D := fun ds h => if ds.length = n then match m (ds.map some ++ List.replicate (N - n) none) h with
    | .ok (.rt d) h' => .ok d h'
    | .ok (.nx _) h' => .ok .non h'
    | .exc c d _ h' => .exc c d h'
    | _ => .bad
  else .bad
def spM0 (K : PySem.W.Frag) (n : Nat) (m : List D → M D) : Sp := fun vs H Q _ => ∃ w h ds, ds.length = n ∧ Sim K w h H ∧ RVs K w ds vs ∧ match m ds h with
  | .ok d h' => ∀ w' H' v, w.le w' → Sim K w' h' H' → Keep w h H w' h' H' → RV K w' d v → Q v H'
  | _ => False
structure Fn0 (P : Program) (w : World) (K : PySem.W.Frag) (mg : Str → Option Value) (base : Heap) (k : Nat) (x : Str) (m : List D → M D) : Prop where
  ex : ∃ f fd ps n, FnOk P w K mg base CX0 k f fd ps (spM0 K n m) ∧ mg x = some (.ref f) ∧ PySem.W.keepIn K (.ref f) = true ∧ Binds K fd ps [] ∧ ∀ ds h, ds.length ≠ n → m ds h = .bad
theorem SimL.start {K : PySem.W.Frag} {w : Wd} {ds : List D} {vs : List V} (r : RVs K w ds vs) (N : List Str) : SimL K w (ds.map some ++ List.replicate (N.length - ds.length) none) (L2.start N vs) := by
  have e := r.length
  refine ⟨by simp [L2.start, e], fun i d q => ?_⟩
  by_cases hi : i < ds.length
  · rw [List.getElem?_append_left (by simpa using hi), List.getElem?_map] at q
    cases q' : ds[i]? with
    | none => rw [q'] at q; cases q
    | some d' =>
      rw [q'] at q
      cases q
      obtain ⟨v, e1, r1⟩ := r.get' q'
      refine ⟨v, ?_, r1⟩
      unfold L2.start
      rw [List.getElem?_append_left (by simp [e, hi]), List.getElem?_map, e1]; rfl
  · rw [List.getElem?_append_right (by simpa using hi)] at q
    rw [List.getElem?_replicate] at q
    split at q <;> cases q
theorem Fn0.make {P : Program} {w : World} {K : PySem.W.Frag} {mg : Str → Option Value} {base : Heap} {x qual : Str} {st : Stmt} {f : Addr} {fd : FuncData} {N ps : List Str} {k n nn : Nat} {m : S} (F : Fun K x qual st f fd) (hm : mg x = some (.ref f)) (Sc : FnScope N ps (defScope st)) (b : Binds K fd ps [])
    (hn : ps.length = n) (hnn : N.length = nn)
    (hbody : ∀ (cdv : Value) (A : Around) (outer : List Env) (s : Shared) (H : Hp) (E : XK), Room k (A.deeper (PyProof.Rows.envOfC qual (defScope st) s.heap.objs.size f cdv)) →
      MSs (cxOf CX0 P w K mg base N qual (defScope st) f cdv A outer s H E).nox W0 (defBody st) m) : Fn0 P w K mg base (k + 1) x (bodyM n nn m) := by
  subst hn hnn
  refine ⟨f, fd, ps, ps.length, ?_, hm, F.kp, b, fun ds h e => by unfold bodyM; rw [if_neg e]⟩
  refine F.ok Sc (fun vs H Q E ⟨w, h, ds, e, s, r, _⟩ => by rw [r.length, e]) fun cdv A outer s H vs Q E hr ⟨w1, h, ds, e, si, r, q⟩ => ?_
  refine ⟨_, hbody cdv A outer s H E hr, w1, ds.map some ++ List.replicate (N.length - ds.length) none, h, si, SimL.start r N, ?_⟩
  unfold bodyM at q
  rw [if_pos e, ← e] at q
  show ResS K mg w1 h H W0 _ _
  cases eb : m (ds.map some ++ List.replicate (N.length - ds.length) none) h with
  | bad => simp only [eb] at q
  | exc c d l h' => simp only [eb] at q
  | ok fl h' =>
    cases fl with
    | nx l => simp only [eb] at q; exact fun w' H' σ' l2 s2 k2 _ => q w' H' .non l2 s2 k2 rfl
    | rt d => simp only [eb] at q; exact q
    | bk l => simp only [eb] at q
    | ct l => simp only [eb] at q
theorem Fn0.mono {P : Program} {w : World} {K : PySem.W.Frag} {mg : Str → Option Value} {base : Heap} {j k : Nat} {x : Str} {m : List D → M D} (F : Fn0 P w K mg base j x m) (h : j ≤ k) : Fn0 P w K mg base k x m := by
  obtain ⟨f, fd, ps, n, F, r⟩ := F.ex
  exact ⟨f, fd, ps, n, F.mono h, r⟩
section
variable {X : Cx} {W : WX'} {a b e c tg iter o : Expr} {es : List Expr} {ma mb me mo : L → M D} {mi mr : L → M (List D)} {tc : L → M Bool} {pos : Pos} {st : Stmt} {rest : List Stmt} {m m' : S}
def callF (m : List D → M D) (mr : L → M (List D)) : L → M D := fun l => (mr l).bind fun ds => safe (m ds)
theorem fn0_read {n : Nat} {f : List D → M D} {σ : St} {H : Hp} {Q : VK} (hl : ∀ ds h, ds.length ≠ n → f ds h = .bad) (t : tG X.K X.mg W (RV X.K) (callF f mr) σ H Q) : tG X.K X.mg W (RVs X.K) mr σ H fun vs H1 => spM0 X.K n f vs H1 Q E0 := by
  obtain ⟨w, l, h, s, sl, r⟩ := t
  refine tG_mono (fun vs H1 ⟨w1, ds, h1, l1, s1, k1, rv, r1⟩ => ?_) (tG_bind s sl r)
  unfold safe at r1
  cases ef : f ds h1 with
  | bad => simp only [ef] at r1; exact r1.elim
  | exc c d h' => simp only [ef] at r1; exact r1.elim
  | ok d h' =>
    simp only [ef] at r1
    have en : ds.length = n := by
      by_cases z : ds.length = n
      · exact z
      · rw [hl ds h1 z] at ef; cases ef
    exact ⟨w1, h1, ds, en, s1, rv, by simp only [ef]; exact r1⟩
theorem me_call {k : Nat} {x : Str} {p : Pos} {f : List D → M D} (F : Fn0 X.prog X.w X.K X.mg X.base k x f) (hr : Room k X.A) (hg : Gl X x) (ha : MA X W (a :: es) mr) (hdb : (x == ("__debug__" : Str)) = false := by decide)
    (he : starEach (a :: es) X.env = (false, eval a X.env) :: starEach es X.env := by rfl) (hpl : (backTo pos (starEach es X.env)).any (·.1) = false := by rfl) : ME X W (.Call (.Name x p) (a :: es) [] pos) (callF f mr) := by
  obtain ⟨fa, fd, ps, n, F, hm, hk, hb, hl⟩ := F.ex
  refine PE.weak (pe_call F hr hg hm hk hb .nil pass0 ha hdb he hpl) fun σ H Q t => ?_
  refine tG_mono (fun vs H1 q => ?_) (fn0_read hl t)
  rw [List.append_nil]
  exact q
theorem me_call0 {k : Nat} {x : Str} {p : Pos} {f : List D → M D} (F : Fn0 X.prog X.w X.K X.mg X.base k x f) (hr : Room k X.A) (hg : Gl X x) (hdb : (x == ("__debug__" : Str)) = false := by decide) : ME X W (.Call (.Name x p) [] [] pos) (callF f nilA) := by
  obtain ⟨fa, fd, ps, n, F, hm, hk, hb, hl⟩ := F.ex
  refine PE.weak (pe_call0 F hr hg hm hk hb .nil pass0 hdb) fun σ H Q t => ?_
  obtain ⟨w, l, h, s, sl, r⟩ := t
  have r : Res X.K X.mg (RV X.K) w h H σ W Q (safe (f []) h) := r
  unfold safe at r
  show spM0 X.K n f ([] ++ []) H Q E0
  cases ef : f [] h with
  | bad => simp only [ef] at r; exact r.elim
  | exc c d h' => simp only [ef] at r; exact r.elim
  | ok d h' =>
    simp only [ef] at r
    have en : ([] : List D).length = n := by
      by_cases z : ([] : List D).length = n
      · exact z
      · rw [hl [] h z] at ef; cases ef
    exact ⟨w, h, [], en, s, rfl, by simp only [ef]; exact r⟩

/-- a module's constant -/
def Const (K : PySem.W.Frag) (mg : Str → Option Value) (x : Str) (d : D) : Prop := ∃ u v, mg x = some u ∧ RelV v u ∧ ∀ w, RV K w d v
theorem me_const {x : Str} {d : D} {p : Pos} (c : Const X.K X.mg x d) (hg : Gl X x) (hd : (x == ("__debug__" : Str)) = false := by decide) : ME X W (.Name x p) (cst d) := by
  obtain ⟨u, v, hm, r, rd⟩ := c
  exact me_glob d hg hm r rd hd
theorem Const.int {K : PySem.W.Frag} {mg : Str → Option Value} {x : Str} {i : Int} {t : Tok} (h : mg x = some (.int i t)) : Const K mg x (.int i) := ⟨_, .int i, h, ⟨t, rfl⟩, fun _ => rfl⟩
theorem Const.str {K : PySem.W.Frag} {mg : Str → Option Value} {x y : Str} {t : Tok} (c : List Nat) (h : mg x = some (.str y t)) (e : y = cs c := by decide +kernel) (hc : (decide (c.length ≤ 1000) && c.all fun c => decide (c < 0x110000)) = true := by decide +kernel) : Const K mg x (.str c) :=
  ⟨_, .str (cs c), h, ⟨t, by rw [e]⟩, fun _ => by
    simp only [Bool.and_eq_true, decide_eq_true_eq] at hc
    exact ⟨rfl, Nat.le_trans hc.1 (by rw [sizeLine_eq]; decide), hc.2⟩⟩

/-! ### lists that are changed -/
def refL (h : Hc) (x : D) : Option Nat := match x with
  | .ref n => (objL h n).map fun _ => n
  | _ => none
theorem refL_ok {w : Wd} {h : Hc} {H : Hp} {d : D} {x : V} {n : Nat} (s : Sim X.K w h H) (r : RV X.K w d x) (e : refL h d = some n) : d = .ref n ∧ ∃ ds a vs, objL h n = some ds ∧ x = .ref a ∧ w.ρ[n]? = some a ∧ H a = some (.lst vs) ∧ ds.length ≤ sizeLine ∧ RVs X.K w ds vs := by
  unfold refL at e
  split at e
  · obtain ⟨ds, e1, e2⟩ := Option.map_eq_some_iff.mp e
    subst e2
    obtain ⟨a, rfl, q⟩ := r
    obtain ⟨vs, ev, z, rv⟩ := s.ob _ _ a (objL_some e1) q
    exact ⟨rfl, ds, a, vs, e1, rfl, q, ev, z, rv⟩
  · cases e
def appH (n : Nat) (y : D) : M D := fun h => match objL h n with
  | some ds => if ds.length < sizeLine then .ok .non (h.set n (.lst (ds ++ [y]))) else .bad
  | none => .bad
def extH (n : Nat) (ys : List D) : M D := fun h => match objL h n with
  | some ds => if ds.length + ys.length ≤ sizeLine then .ok .non (h.set n (.lst (ds ++ ys))) else .bad
  | none => .bad
def one (f : D → M D) : List D → M D := fun ds => match ds with
  | [d] => f d
  | _ => fun _ => .bad
def appV (mo : L → M D) (mr : L → M (List D)) : L → M D := fun l => (mo l).bind fun x => (rdo fun h => refL h x).bind fun n => (mr l).bind (one (appH n))
def asLst (d : D) : M (List D) := fun h => match d with
  | .lst ds => .ok ds h
  | _ => .bad
def extV (mo : L → M D) (mr : L → M (List D)) : L → M D := fun l => (mo l).bind fun x => (rdo fun h => refL h x).bind fun n => (mr l).bind (one fun d => (asLst d).bind (extH n))
/-- where an object stood it stands -/
theorem ref_le {w w' : Wd} {n : Nat} {a : Addr} (l : w.le w') (q : w.ρ[n]? = some a) : w'.ρ[n]? = some a := by
  obtain ⟨⟨r, e⟩, _⟩ := l
  rw [e, List.getElem?_append_left (List.getElem?_eq_some_iff.mp q).1]; exact q
theorem me_append {apos : Pos} (ho : ME X W o mo) (ha : MA X W [a] mr)
    (hbase : attributeBase o "append" X.env (eval o X.env) = eval o X.env := by rfl)
    (hfew : ((backTo pos (starEach [a] X.env)).all (fun x => !x.1) && (backToKw pos (keywordEach [] X.env)).all (fun x => x.1.isSome)
      && decide (([a] : List Expr).length + ([] : List Keyword).length + (if ([] : List Keyword).isEmpty then 0 else 1) < 30)) = true := by rfl)
    (hline : (apos.endLine == pos.line) = true := by rfl) (hs : starEach [a] X.env = (false, eval a X.env) :: starEach [] X.env := by rfl) (hplain : (backTo pos (starEach [] X.env)).any (·.1) = false := by rfl) :
    ME X W (.Call (.Attribute o "append" apos) [a] [] pos) (appV mo mr) :=
  PE.weak (pe_bm PySem.F.plainAttrs_list PySem.F.slot_list_append PySem.F.type_list_append mt_append ho ha hbase hfew hline hs hplain) fun σ H Q ⟨w, l, h, s, sl, r⟩ => by
    refine tG_mono (fun x H1 ⟨w1, dx, h1, l1, s1, k1, rx, r1⟩ => ?_) (tG_bind s sl r)
    obtain ⟨n, e, r1'⟩ := r1.rdo_bind
    obtain ⟨rfl, ds, p, vs, e1, rfl, q, ev, z, rv⟩ := refL_ok s1 rx e
    refine ⟨.inl ⟨rfl, _, SqL.of ev⟩, ?_⟩
    refine tG_mono (fun ys H2 ⟨w2, es2, h2, l2, s2, k2, rs, r2⟩ => ?_) (tG_bind (f := one (appH n)) s1 (sl.le l1) r1')
    unfold one at r2
    split at r2
    · rename_i d
      obtain ⟨y, _, rfl, ry, rfl⟩ := rs
      unfold appH at r2
      have q2 := ref_le l2 q
      cases e2 : objL h2 n with
      | none => simp only [e2] at r2; exact r2.elim
      | some ds2 =>
        simp only [e2] at r2
        split at r2
        · rename_i hz
          obtain ⟨vs2, ev2, z2, rv2⟩ := s2.ob n _ p (objL_some e2) q2
          have lv := rv2.length
          refine ⟨p, vs2, y, rfl, rfl, ev2, by omega, ?_⟩
          obtain ⟨s3, k3⟩ := s2.write (o := .lst (vs2 ++ [y])) (ob' := .lst (ds2 ++ [d])) (objL_some e2) rfl q2 rfl ⟨vs2 ++ [y], upd_same, by simp; omega, rv2.append ⟨y, [], rfl, ry, rfl⟩⟩
          exact r2 w2 _ .non w2.le_refl s3 k3 rfl
        · exact r2.elim
    · exact r2.elim
theorem me_extend {apos : Pos} (ho : ME X W o mo) (ha : MA X W [a] mr)
    (hbase : attributeBase o "extend" X.env (eval o X.env) = eval o X.env := by rfl)
    (hfew : ((backTo pos (starEach [a] X.env)).all (fun x => !x.1) && (backToKw pos (keywordEach [] X.env)).all (fun x => x.1.isSome)
      && decide (([a] : List Expr).length + ([] : List Keyword).length + (if ([] : List Keyword).isEmpty then 0 else 1) < 30)) = true := by rfl)
    (hline : (apos.endLine == pos.line) = true := by rfl) (hs : starEach [a] X.env = (false, eval a X.env) :: starEach [] X.env := by rfl) (hplain : (backTo pos (starEach [] X.env)).any (·.1) = false := by rfl) :
    ME X W (.Call (.Attribute o "extend" apos) [a] [] pos) (extV mo mr) :=
  PE.weak (pe_bm PySem.F.plainAttrs_list PySem.F.slot_list_extend PySem.F.type_list_extend mt_extend ho ha hbase hfew hline hs hplain) fun σ H Q ⟨w, l, h, s, sl, r⟩ => by
    refine tG_mono (fun x H1 ⟨w1, dx, h1, l1, s1, k1, rx, r1⟩ => ?_) (tG_bind s sl r)
    obtain ⟨n, e, r1'⟩ := r1.rdo_bind
    obtain ⟨rfl, ds, p, vs, e1, rfl, q, ev, z, rv⟩ := refL_ok s1 rx e
    refine ⟨.inl ⟨rfl, _, SqL.of ev⟩, ?_⟩
    refine tG_mono (fun ys H2 ⟨w2, es2, h2, l2, s2, k2, rs, r2⟩ => ?_) (tG_bind (f := one fun d => (asLst d).bind (extH n)) s1 (sl.le l1) r1')
    unfold one at r2
    split at r2
    · rename_i d
      obtain ⟨y, _, rfl, ry, rfl⟩ := rs
      unfold M.bind asLst at r2
      cases d with
      | lst ds' =>
        obtain ⟨b, us, rfl, qb, zb, rb⟩ := ry
        have r2 : Res X.K X.mg (RV X.K) w2 h2 H2 σ W Q (extH n ds' h2) := r2
        unfold extH at r2
        have q2 := ref_le l2 q
        cases e2 : objL h2 n with
        | none => simp only [e2] at r2; exact r2.elim
        | some ds2 =>
          simp only [e2] at r2
          split at r2
          · rename_i hz
            obtain ⟨vs2, ev2, z2, rv2⟩ := s2.ob n _ p (objL_some e2) q2
            have lv := rv2.length
            have lb := rb.length
            refine ⟨p, b, vs2, us, rfl, rfl, ev2, s2.fx _ _ qb, by omega, ?_⟩
            obtain ⟨s3, k3⟩ := s2.write (o := .lst (vs2 ++ us)) (ob' := .lst (ds2 ++ ds')) (objL_some e2) rfl q2 rfl ⟨vs2 ++ us, upd_same, by simp; omega, rv2.append rb⟩
            exact r2 w2 _ .non w2.le_refl s3 k3 rfl
          · exact r2.elim
      | _ => exact r2.elim
    · exact r2.elim
/-- xs[i] = e, the list xs changed -/
def putH (x i y : D) : M D := fun h => match x, i with
  | .ref n, .int k => match objL h n with
    | some ds => match ixN ds.length k with
      | some j => .ok .non (h.set n (.lst (ds.set j y)))
      | none => .bad
    | none => .bad
  | _, _ => .bad
def putS (me mo mi : L → M D) : S := bindS (fun l => (me l).bind fun y => (mo l).bind fun x => (mi l).bind fun i => putH x i y) fun _ => nextS
theorem ms_put {i : Expr} {mx : L → M D} {p : Pos} (he : ME X W e me) (ho : ME X W o mo) (hi : ME X W i mx)
    (ha : ∀ v, assign (.Subscript o i p) X.env v = (do
      let ov ← holding [v] (eval o X.env)
      let iv ← holding [v, ov] (eval i X.env)
      standAt p
      holding [v, ov, iv] (setItem ov iv v)
      release [v, ov, iv] []) := by intro _; rfl)
    (hs : swapsWithSole [.Subscript o i p] e pos.line X.env = pure false := by rfl) (hw : swappedStores [.Subscript o i p] e X.env = pure none := by rfl)
    (h1 : (assignEach [.Subscript o i p] X.env).map (·.2) = [assign (.Subscript o i p) X.env] := by rfl) : MS X W (.Assign [.Subscript o i p] e pos) (putS me mo mx) :=
  PS.weak (ps_asg he (pg_sub ho hi set_list ha) hs hw h1) fun E σ H ⟨w, l, h, s, sl, r⟩ => by
    have t : tG X.K X.mg W (RV X.K) (fun l => (me l).bind fun y => (mo l).bind fun x => (mx l).bind fun i => putH x i y) σ H fun _ H' => E.nx σ H' := by
      refine tG_mono (fun x H1 ⟨w1, d, h1, l1, s1, k1, rx, r1⟩ => ?_) (bindS_read s sl r)
      exact ResS.next r1 s1 (sl.le l1)
    clear r sl s
    obtain ⟨w, l, h, s, sl, r⟩ := t
    refine tG_mono (fun y H1 ⟨w1, dy, h1, l1, s1, k1, ry, r1⟩ => ?_) (tG_bind s sl r)
    refine tG_mono (fun x H2 ⟨w2, dx, h2, l2, s2, k2, rx, r2⟩ => ?_) (tG_bind s1 (sl.le l1) r1)
    refine tG_mono (fun i H3 ⟨w3, di, h3, l3, s3, k3, ri, r3⟩ => ?_) (tG_bind s2 (sl.le (l1.trans l2)) r2)
    cases dx with
    | ref n =>
     cases di with
     | int k =>
      unfold putH at r3
      dsimp only at r3
      cases (show i = _ from ri)
      obtain ⟨p, rfl, q⟩ := rx
      have q3 := ref_le l3 q
      cases e2 : objL h3 n with
      | none => simp only [e2] at r3; exact r3.elim
      | some ds =>
        simp only [e2] at r3
        cases ej : ixN ds.length k with
        | none => simp only [ej] at r3; exact r3.elim
        | some j =>
          simp only [ej] at r3
          obtain ⟨vs, ev, z, rv⟩ := s3.ob n _ p (objL_some e2) q3
          refine ⟨p, vs, k, j, rfl, rfl, ev, by rw [rv.length]; exact ej, ?_⟩
          obtain ⟨s4, k4⟩ := s3.write (o := .lst (vs.set j y)) (ob' := .lst (ds.set j dy)) (objL_some e2) rfl q3 rfl ⟨vs.set j y, upd_same, by simp; omega, rv.set (ry.le (l2.trans l3)) j⟩
          exact r3 w3 _ .non w3.le_refl s4 k4 rfl
     | _ => exact r3.elim
    | _ => exact r3.elim
/-- a list that was changed is fixed: the name is given up -/
def frzV (mo : L → M D) : L → M D := fun l => (mo l).bind fun x => fun h => match x with
  | .ref n => match objL h n with
    | some ds => .ok (.lst ds) (h.set n .dead)
    | none => .bad
  | d => .ok d h
theorem me_frz (ho : ME X W o mo) : ME X W o (frzV mo) := PE.weak ho fun σ H Q ⟨w, l, h, s, sl, r⟩ => by
  refine tG_mono (fun x H1 ⟨w1, dx, h1, l1, s1, k1, rx, r1⟩ => ?_) (tG_bind s sl r)
  split at r1
  · rename_i n
    cases e2 : objL h1 n with
    | none => simp only [e2] at r1; exact r1.elim
    | some ds =>
      simp only [e2] at r1
      obtain ⟨a, rfl, q⟩ := rx
      obtain ⟨w2, l2, s2, k2, rv⟩ := s1.freeze (objL_some e2) q
      exact r1 w2 H1 _ l2 s2 k2 rv
  · exact Res.stay r1 s1 rx
end
end Mz

namespace Mz
open PySem L2
section
variable {X : Cx} {W : WX'}
/-! ### len, isinstance, int, abs, max, min, all, any, tuple, list, repr -/
def lenD (h : Hc) (ds : List D) : Option D := match ds with
  | [.str x] => some (.int (x.length : Nat))
  | [x] => (seqD h x).map fun xs => .int (xs.length : Nat)
  | _ => none
theorem RVs.one {K : PySem.W.Frag} {w : Wd} {d : D} {vs : List V} (r : RVs K w [d] vs) : ∃ v, vs = [v] ∧ RV K w d v := by
  obtain ⟨v, _, rfl, r1, rfl⟩ := r
  exact ⟨v, rfl, r1⟩
theorem RVs.two {K : PySem.W.Frag} {w : Wd} {d e : D} {vs : List V} (r : RVs K w [d, e] vs) : ∃ v u, vs = [v, u] ∧ RV K w d v ∧ RV K w e u := by
  obtain ⟨v, _, rfl, r1, u, _, rfl, r2, rfl⟩ := r
  exact ⟨v, u, rfl, r1, r2⟩
theorem cm_len : CallM X (.builtin "len") lenD := by
  refine CallM.of call_len fun w h ds d H xs Q e s r k => ?_
  unfold lenD at e
  split at e
  · cases e
    obtain ⟨v, rfl, rfl, z, _⟩ := r.one
    refine ⟨_, _, rfl, ⟨by rw [cs_length]; exact z, (cs_length _).symm⟩, k w H _ w.le_refl s (Keep.refl _ _ _) rfl⟩
  · rename_i x _
    obtain ⟨ys, e1, rfl⟩ := Option.map_eq_some_iff.mp e
    obtain ⟨v, rfl, r1⟩ := r.one
    obtain ⟨p, us, rfl, q, _, rv⟩ := seqD_ok s r1 e1
    have lv := rv.length
    rcases q with q | q
    · exact ⟨_, us.length, rfl, .inr ⟨us, q, rfl⟩, by rw [lv]; exact k w H _ w.le_refl s (Keep.refl _ _ _) rfl⟩
    · exact ⟨_, us.length, rfl, .inl ⟨us, q, rfl⟩, by rw [lv]; exact k w H _ w.le_refl s (Keep.refl _ _ _) rfl⟩
  · cases e
/-- the name of a value's type -/
def tyN (h : Hc) : D → Option String
  | .non => some "NoneType"
  | .bl _ => some "bool"
  | .int _ => some "int"
  | .str _ => some "str"
  | .tup _ => some "tuple"
  | .lst _ => some "list"
  | .arg _ => some "list"
  | .ref n => (objL h n).map fun _ => "list"
  | .ty _ => none
  | .edict => some "dict"
  | .rpr _ => some "str"
theorem tyN_ok {w : Wd} {h : Hc} {H : Hp} {d : D} {v : V} {T : String} (s : Sim X.K w h H) (r : RV X.K w d v) (e : tyN h d = some T) : TyX X.K H v (.type T) := by
  cases d with
  | non => cases (show v = _ from r); cases e; exact .base .non
  | bl _ => cases (show v = _ from r); cases e; exact .base (.bl _)
  | int _ => cases (show v = _ from r); cases e; exact .base (.int _)
  | str _ => obtain ⟨rfl, _⟩ := r; cases e; exact .base (.str _)
  | tup ds =>
    obtain ⟨a, vs, rfl, q, _⟩ := r
    cases e
    rcases SqT.le s.fx q with (q | ⟨o, q⟩) | ⟨o, its, n, hk, hc, _⟩
    · exact .base (.tup q)
    · exact .fTuple q
    · exact .kTuple hk hc
  | lst ds =>
    obtain ⟨a, vs, rfl, q, _⟩ := r
    cases e
    exact .base (.lst (s.fx _ _ q))
  | arg ds =>
    obtain ⟨a, vs, rfl, q, _⟩ := r
    cases e
    rcases SqL.le s.fx q with (q | ⟨o, q⟩) | ⟨o, its, n, hk, hc, _⟩
    · exact .base (.lst q)
    · exact .base (.frz q)
    · exact .kList hk hc
  | ref n =>
    obtain ⟨a, rfl, q⟩ := r
    obtain ⟨ds, e1, e2⟩ := Option.map_eq_some_iff.mp (show (objL h n).map (fun _ => "list") = some T from e)
    subst e2
    obtain ⟨vs, ev, _⟩ := s.ob n _ a (objL_some e1) q
    exact .base (.lst ev)
  | ty _ => cases e
  | edict =>
    obtain ⟨a, rfl, q⟩ := r
    cases e
    exact .base (.dK (s.fx _ _ q))
  | rpr _ => cases (show v = _ from r); cases e; exact .base (.str _)
/-- whether a built-in type is another one or below it -/
def subT (a b : String) : Option Bool := if a = b then some true else if ["int", "str", "bool", "tuple", "list", "NoneType", "dict"].contains a && ["int", "str", "bool", "tuple", "list"].contains b then some (a == "bool" && b == "int") else none
theorem subT_ok {K : PySem.W.Frag} {a b : String} {r : Bool} (h : subT a b = some r) : PySem.W.kitOne K (.type a) (.type b) = some r := by
  apply kit_ty
  unfold subT at h
  split at h
  · rename_i e
    subst e
    cases h
    unfold kitB
    rw [if_pos (by simp)]
  · split at h
    · rename_i ne z
      cases h
      rw [Bool.and_eq_true] at z
      simp only [List.contains_cons, List.contains_nil, Bool.or_false, Bool.or_eq_true, beq_iff_eq] at z
      obtain ⟨z1, z2⟩ := z
      rcases z1 with rfl | rfl | rfl | rfl | rfl | rfl | rfl <;> rcases z2 with rfl | rfl | rfl | rfl | rfl <;> first | exact absurd rfl ne | decide +kernel
    · cases h
def isiD (h : Hc) (ds : List D) : Option D := match ds with
  | [x, .ty T] => (tyN h x).bind fun t => (subT t T).map fun b => .bl b
  | _ => none
theorem cm_isi : CallM X (.builtin "isinstance") isiD := by
  refine CallM.of call_isi fun w h ds d H xs Q e s r k => ?_
  unfold isiD at e
  split at e
  · rename_i x T
    obtain ⟨t, e1, e2⟩ := Option.bind_eq_some_iff.mp e
    obtain ⟨b, e3, rfl⟩ := Option.map_eq_some_iff.mp e2
    obtain ⟨v, u, rfl, r1, r2⟩ := r.two
    cases (show u = _ from r2)
    exact ⟨v, .ty T, .type t, .type T, b, rfl, .ty T, tyN_ok s r1 e1, subT_ok e3, k w H _ w.le_refl s (Keep.refl _ _ _) rfl⟩
  · cases e
def intD (_ : Hc) (ds : List D) : Option D := match ds with
  | [.int i] => some (.int i)
  | [.bl b] => some (.int (if b then 1 else 0))
  | _ => none
theorem cm_int : CallM X (.type "int") intD := by
  refine CallM.of call_int1 fun w h ds d H xs Q e s r k => ?_
  unfold intD at e
  split at e
  · cases e
    obtain ⟨v, rfl, rfl⟩ := r.one
    exact .inl ⟨_, rfl, k w H _ w.le_refl s (Keep.refl _ _ _) rfl⟩
  · cases e
    obtain ⟨v, rfl, rfl⟩ := r.one
    exact .inr ⟨_, rfl, k w H _ w.le_refl s (Keep.refl _ _ _) rfl⟩
  · cases e
def absD (_ : Hc) (ds : List D) : Option D := match ds with
  | [.int i] => some (.int (if i < 0 then -i else i))
  | _ => none
theorem cm_abs : CallM X (.builtin "abs") absD := by
  refine CallM.of call_abs fun w h ds d H xs Q e s r k => ?_
  unfold absD at e
  split at e
  · cases e
    obtain ⟨v, rfl, rfl⟩ := r.one
    exact ⟨_, rfl, k w H _ w.le_refl s (Keep.refl _ _ _) rfl⟩
  · cases e
def maxD (_ : Hc) (ds : List D) : Option D := match ds with
  | [.int i, .int j] => some (.int (if j > i then j else i))
  | _ => none
theorem cm_max (hc : X.calm = true) : CallM X (.builtin "max") maxD := by
  refine CallM.of (call_max2 hc) fun w h ds d H xs Q e s r k => ?_
  unfold maxD at e
  split at e
  · cases e
    obtain ⟨v, u, rfl, rfl, rfl⟩ := r.two
    exact ⟨_, _, rfl, k w H _ w.le_refl s (Keep.refl _ _ _) rfl⟩
  · cases e
def minD (_ : Hc) (ds : List D) : Option D := match ds with
  | [.int i, .int j] => some (.int (if j < i then j else i))
  | _ => none
theorem cm_min (hc : X.calm = true) : CallM X (.builtin "min") minD := by
  refine CallM.of (call_min2 hc) fun w h ds d H xs Q e s r k => ?_
  unfold minD at e
  split at e
  · cases e
    obtain ⟨v, u, rfl, rfl, rfl⟩ := r.two
    exact ⟨_, _, rfl, k w H _ w.le_refl s (Keep.refl _ _ _) rfl⟩
  · cases e
def bls : List D → Option (List Bool)
  | [] => some []
  | .bl b :: ds => (bls ds).map fun bs => b :: bs
  | _ => none
theorem bls_ok {K : PySem.W.Frag} {w : Wd} : ∀ {ds : List D} {vs : List V} {bs : List Bool}, bls ds = some bs → RVs K w ds vs → vs = bs.map V.bl
  | [], vs, bs, e, r => by cases e; cases (show vs = [] from r); rfl
  | d :: ds, vs, bs, e, r => by
    cases d with
    | bl b =>
      obtain ⟨bs', e1, rfl⟩ := Option.map_eq_some_iff.mp (show (bls ds).map (fun bs => b :: bs) = some bs from e)
      obtain ⟨v, vs', rfl, rfl, rs⟩ := r
      rw [bls_ok e1 rs]; rfl
    | _ => cases e
def allD (_ : Hc) (ds : List D) : Option D := match ds with
  | [.lst xs] => (bls xs).map fun bs => .bl (bs.all id)
  | _ => none
def anyD (_ : Hc) (ds : List D) : Option D := match ds with
  | [.lst xs] => (bls xs).map fun bs => .bl (bs.any id)
  | _ => none
theorem cm_all (hc : X.calm = true) : CallM X (.builtin "all") allD := by
  refine CallM.of (cr_all hc) fun w h ds d H xs Q e s r k => ?_
  unfold allD at e
  split at e
  · obtain ⟨bs, e1, rfl⟩ := Option.map_eq_some_iff.mp e
    obtain ⟨v, rfl, a, vs, rfl, q, _, rv⟩ := r.one
    exact ⟨a, bs, rfl, by rw [← bls_ok e1 rv]; exact SqL.of (s.fx _ _ q), k w H _ w.le_refl s (Keep.refl _ _ _) rfl⟩
  · cases e
theorem cm_any (hc : X.calm = true) : CallM X (.builtin "any") anyD := by
  refine CallM.of (cr_any hc) fun w h ds d H xs Q e s r k => ?_
  unfold anyD at e
  split at e
  · obtain ⟨bs, e1, rfl⟩ := Option.map_eq_some_iff.mp e
    obtain ⟨v, rfl, a, vs, rfl, q, _, rv⟩ := r.one
    exact ⟨a, bs, rfl, by rw [← bls_ok e1 rv]; exact SqL.of (s.fx _ _ q), k w H _ w.le_refl s (Keep.refl _ _ _) rfl⟩
  · cases e
def tupleD (h : Hc) (ds : List D) : Option D := match ds with
  | [x] => (seqD h x).map fun xs => .tup xs
  | _ => none
theorem seqL_ok {w : Wd} {h : Hc} {H : Hp} {d : D} {x : V} {ds : List D} (s : Sim X.K w h H) (r : RV X.K w d x) (e : seqD h d = some ds) : (d = .tup ds) ∨ ∃ p xs, x = V.ref p ∧ SqL X.K H p xs ∧ ds.length ≤ sizeLine ∧ RVs X.K w ds xs := by
  cases d with
  | tup ds' => cases e; exact .inl rfl
  | lst ds' =>
    obtain ⟨a, vs, rfl, q, z, rv⟩ := r
    cases e
    exact .inr ⟨a, vs, rfl, SqL.of (s.fx _ _ q), z, rv⟩
  | arg ds' =>
    obtain ⟨a, vs, rfl, q, z, rv⟩ := r
    cases e
    exact .inr ⟨a, vs, rfl, SqL.le s.fx q, z, rv⟩
  | ref n =>
    obtain ⟨a, rfl, q⟩ := r
    obtain ⟨vs, ev, z, rv⟩ := s.ob n _ a (objL_some e) q
    exact .inr ⟨a, vs, rfl, SqL.of ev, z, rv⟩
  | _ => cases e
theorem cm_tuple : CallM X (.type "tuple") tupleD := by
  refine CallM.of call_tuple_of fun w h ds d H xs Q e s r k => ?_
  unfold tupleD at e
  split at e
  · rename_i x
    obtain ⟨ys, e1, rfl⟩ := Option.map_eq_some_iff.mp e
    obtain ⟨v, rfl, r1⟩ := r.one
    rcases seqL_ok s r1 e1 with rfl | ⟨p, us, rfl, q, z, rv⟩
    · obtain ⟨p, us, rfl, q, z, rv⟩ := id r1
      exact ⟨p, us, rfl, .inr ⟨SqT.le s.fx q, k w H _ w.le_refl s (Keep.refl _ _ _) r1⟩⟩
    · exact ⟨p, us, rfl, .inl ⟨q, fun l hl => new_tup s z rv k hl⟩⟩
  · cases e
def listD (h : Hc) (ds : List D) : Option D := match ds with
  | [x] => (seqD h x).map fun xs => .lst xs
  | _ => none
theorem cm_list : CallM X (.type "list") listD := by
  refine CallM.of call_list_of fun w h ds d H xs Q e s r k => ?_
  unfold listD at e
  split at e
  · rename_i x
    obtain ⟨ys, e1, rfl⟩ := Option.map_eq_some_iff.mp e
    obtain ⟨v, rfl, r1⟩ := r.one
    obtain ⟨p, us, rfl, q, z, rv⟩ := seqD_ok s r1 e1
    exact ⟨p, us, rfl, q.symm, fun l hl => new_lst s z rv k hl⟩
  · cases e
/-- repr of True, False, None -/
def reprBD (_ : Hc) (ds : List D) : Option D := match ds with
  | [.bl b] => some (.str (if b then [84, 114, 117, 101] else [70, 97, 108, 115, 101]))
  | _ => none
theorem call_repr_bool : CallR X (.builtin "repr") (fun xs H Q => ∃ b, xs = [.bl b] ∧ Q (.str (if b then "True" else "False")) H) := by
  intro pins s σ H xs us Q I r h
  obtain ⟨b, rfl, q⟩ := h
  obtain ⟨u, rfl, r1⟩ := vals1 r
  cases r1
  exact PySem.P.repr_of_bool ⟨.str _, H, I.tok _, ⟨_, rfl⟩, q⟩
theorem cm_reprB : CallM X (.builtin "repr") reprBD := by
  refine CallM.of call_repr_bool fun w h ds d H xs Q e s r k => ?_
  unfold reprBD at e
  split at e
  · rename_i b
    cases e
    obtain ⟨v, rfl, rfl⟩ := r.one
    refine ⟨b, rfl, k w H _ w.le_refl s (Keep.refl _ _ _) ?_⟩
    cases b with
    | true => exact ⟨by rw [if_pos rfl, if_pos rfl]; exact congrArg V.str (by decide +kernel), by rw [if_pos rfl]; show 4 ≤ sizeLine; decide, by decide⟩
    | false => exact ⟨by rw [if_neg Bool.false_ne_true, if_neg Bool.false_ne_true]; exact congrArg V.str (by decide +kernel), by rw [if_neg Bool.false_ne_true]; show 5 ≤ sizeLine; decide, by decide⟩
  · cases e
/-! ### powers -/
def CPowW (i j : Int) : Prop := 0 ≤ j ∧ j ≤ 1000 ∧ i.natAbs < 2 ^ 4096
theorem op_powW : OpR X (binaryOp .Pow) (rI CPowW fun i j => .int (i ^ j.toNat)) := opI fun i j _ _ _ _ _ hc q => by
  obtain ⟨h0, h1, h2⟩ := hc
  refine PyProof.Rows.pow_int h0 ?_ q
  have b : Builtin.Int.intBits i ≤ i.natAbs.log2 + 1 := by
    unfold Builtin.Int.intBits
    split <;> omega
  have l : i.natAbs.log2 < 4096 := by
    by_cases z : i.natAbs = 0
    · rw [z]; decide
    · exact (Nat.log2_lt z).mpr h2
  have c : (Builtin.Int.intBits i : Int) ≤ 4096 := by omega
  have : (Builtin.Int.intBits i : Int) * j ≤ 4096 * 1000 := Int.mul_le_mul c h1 h0 (by omega)
  omega
def powD' (_ : Hc) (x y : D) : Option D := match x, y with
  | .int i, .int j => if 0 ≤ j ∧ j ≤ 1000 ∧ i.natAbs < 2 ^ 4096 then some (.int (i ^ j.toNat)) else none
  | _, _ => none
theorem om_pow' : OpM X (binaryOp .Pow) powD' := by
  refine OpM.of op_powW fun w h dx dy d H x y Q e s rx ry k => ?_
  unfold powD' at e
  split at e
  · split at e
    · rename_i z
      cases e; cases (show x = _ from rx); cases (show y = _ from ry)
      exact ⟨_, _, rfl, rfl, z, k w H _ w.le_refl s (Keep.refl _ _ _) rfl⟩
    · cases e
  · cases e
end
end Mz

namespace Mz
open PySem L2
section
variable {X : Cx} {W : WX'} {a b c e : Expr} {ma mb mc : L → M D} {mr : L → M (List D)} {pos : Pos}
/-! ### -e -/
def negV (m : L → M D) : L → M D := fun l => (m l).bind fun x => rdo fun _ => match x with
  | .int i => some (.int (-i))
  | _ => none
theorem me_neg (ha : ME X W a ma) : ME X W (.UnaryOp .USub a pos) (negV ma) :=
  PE.weak (pe_un un_neg ha) fun σ H Q ⟨w, l, h, s, sl, r⟩ => by
    refine tG_mono (fun x H1 ⟨w1, dx, h1, l1, s1, k1, rx, r1⟩ => ?_) (tG_bind s sl r)
    obtain ⟨d, e, k⟩ := r1.rdo
    cases dx with
    | int i =>
      cases (show x = _ from rx)
      cases e
      exact ⟨_, rfl, k w1 H1 _ w1.le_refl s1 (Keep.refl _ _ _) rfl⟩
    | _ => cases e
/-! ### zip -/
def pairs : List D → List D → List D
  | x :: xs, y :: ys => .tup [x, y] :: pairs xs ys
  | _, _ => []
def zipD (ds : List D) : Option (List D) := match ds with
  | [.tup xs, .tup ys] => some (pairs xs ys)
  | [.lst xs, .lst ys] => some (pairs xs ys)
  | _ => none
theorem pairs_len : ∀ xs ys : List D, (pairs xs ys).length = min xs.length ys.length
  | [], ys => by cases ys <;> simp [pairs]
  | x :: xs, [] => by simp [pairs]
  | x :: xs, y :: ys => by simp [pairs, pairs_len xs ys]
theorem pairs_get : ∀ (xs ys : List D) (i : Nat) (x y : D), xs[i]? = some x → ys[i]? = some y → (pairs xs ys)[i]? = some (.tup [x, y])
  | [], _, _, _, _, h, _ => by simp at h
  | _ :: _, [], _, _, _, _, h => by simp at h
  | x :: xs, y :: ys, 0, _, _, h1, h2 => by simp at h1 h2; subst h1 h2; rfl
  | x :: xs, y :: ys, i + 1, _, _, h1, h2 => by simpa [pairs] using pairs_get xs ys i _ _ (by simpa using h1) (by simpa using h2)
theorem yl_zipT {K : PySem.W.Frag} {w : Wd} {ds es : List D} {p q : Addr} {vs us : List V} (h1 : SqT K w.F p vs) (h2 : SqT K w.F q us) (z : ds.length ≤ sizeLine) (rv : RVs K w ds vs) (ru : RVs K w es us) : Yl K w (pairs ds es) (RZ.ItzT K p q) := by
  have e1 := rv.length
  have e2 := ru.length
  refine ⟨by rw [pairs_len]; omega, fun i w' h' H' l s => ?_⟩
  have q1 : SqT K H' p vs := SqT.le s.fx (SqT.le l.2 h1)
  have q2 : SqT K H' q us := SqT.le s.fx (SqT.le l.2 h2)
  rw [pairs_len]
  refine ⟨fun hi => ⟨vs, us, vs[i]'(by omega), us[i]'(by omega), q1, q2, List.getElem?_eq_getElem _, List.getElem?_eq_getElem _⟩, fun hi => ⟨vs, us, q1, q2, by omega⟩, fun x H'' hi ⟨T, x1, y1, ex, hT, eH, f1, f2⟩ => ?_⟩
  subst ex eH
  obtain ⟨d, ed, rd⟩ := (rv.le l).get (f1 vs q1)
  obtain ⟨d', ed', rd'⟩ := (ru.le l).get (f2 us q2)
  obtain ⟨s2, l2, k2⟩ := s.fix (.tup [x1, y1]) hT
  exact ⟨_, .tup [d, d'], l2, s2, k2, pairs_get ds es i d d' ed ed', T, [x1, y1], rfl, SqT.of upd_same, by show 2 ≤ sizeLine; decide, x1, [y1], rfl, rd.le l2, y1, [], rfl, rd'.le l2, rfl⟩
theorem yl_zipL {K : PySem.W.Frag} {w : Wd} {ds es : List D} {p q : Addr} {vs us : List V} (h1 : SqL K w.F p vs) (h2 : SqL K w.F q us) (z : ds.length ≤ sizeLine) (rv : RVs K w ds vs) (ru : RVs K w es us) : Yl K w (pairs ds es) (Itz K p q) := by
  have e1 := rv.length
  have e2 := ru.length
  refine ⟨by rw [pairs_len]; omega, fun i w' h' H' l s => ?_⟩
  have q1 : SqL K H' p vs := SqL.le s.fx (SqL.le l.2 h1)
  have q2 : SqL K H' q us := SqL.le s.fx (SqL.le l.2 h2)
  rw [pairs_len]
  refine ⟨fun hi => ⟨vs, us, vs[i]'(by omega), us[i]'(by omega), q1, q2, List.getElem?_eq_getElem _, List.getElem?_eq_getElem _⟩, fun hi => ⟨vs, us, q1, q2, by omega⟩, fun x H'' hi ⟨T, x1, y1, ex, hT, eH, f1, f2⟩ => ?_⟩
  subst ex eH
  obtain ⟨d, ed, rd⟩ := (rv.le l).get (f1 vs q1)
  obtain ⟨d', ed', rd'⟩ := (ru.le l).get (f2 us q2)
  obtain ⟨s2, l2, k2⟩ := s.fix (.tup [x1, y1]) hT
  exact ⟨_, .tup [d, d'], l2, s2, k2, pairs_get ds es i d d' ed ed', T, [x1, y1], rfl, SqT.of upd_same, by show 2 ≤ sizeLine; decide, x1, [y1], rfl, rd.le l2, y1, [], rfl, rd'.le l2, rfl⟩
theorem mi_zip {p tpos : Pos} {elts : List Expr} {kk : Nat} (hg : Gl X "zip") (hm : X.mg "zip" = none) (ha : MA X W [a, b] mr)
    (hs : starEach [a, b] X.env = (false, eval a X.env) :: starEach [b] X.env := by rfl) (hpl : (backTo pos (starEach [b] X.env)).any (·.1) = false := by rfl) :
    MI X W (.Tuple elts kk tpos) (.Call (.Name "zip" p) [a, b] [] pos) (argsV zipD mr) :=
  PI.weak (RZ.pi_zipA hg hm ha hs hpl) fun σ H Q ⟨w, l, h, s, sl, r⟩ => by
    refine tG_mono (fun vs H1 ⟨w1, ds, h1, l1, s1, k1, rv, r1⟩ => ?_) (tG_bind s sl r)
    obtain ⟨its, ei, k⟩ := r1.rdo
    unfold zipD at ei
    split at ei
    · cases ei
      obtain ⟨v, u, rfl, ⟨p, ps, rfl, hp, z, rp⟩, ⟨q, qs, rfl, hq, z', rq⟩⟩ := rv.two
      exact ⟨p, q, ps, qs, rfl, .inr ⟨SqT.le s1.fx hp, SqT.le s1.fx hq, k w1 H1 _ w1.le_refl s1 (Keep.refl _ _ _) (yl_zipT hp hq z rp rq)⟩⟩
    · cases ei
      obtain ⟨v, u, rfl, ⟨p, ps, rfl, hp, z, rp⟩, ⟨q, qs, rfl, hq, z', rq⟩⟩ := rv.two
      exact ⟨p, q, ps, qs, rfl, .inl ⟨SqL.of (s1.fx _ _ hp), SqL.of (s1.fx _ _ hq), k w1 H1 _ w1.le_refl s1 (Keep.refl _ _ _) (yl_zipL (SqL.of hp) (SqL.of hq) z rp rq)⟩⟩
    · cases ei
/-! ### a, b, c = x, y, z -/
def par3S (i j k : Nat) (mr : L → M (List D)) : S := bindS mr fun ds l h => match ds with
  | [x, y, z] => .ok (.nx (((l.set i (some x)).set j (some y)).set k (some z))) h
  | _ => .bad
theorem ms_par3 (i j k : Nat) {x y z : Str} {ta : L → M (List D)} {px py pz pt : Pos} {kt k2 pt2} (hc : X.calm = true) (hN : X.N.Nodup) (ha : MA X W [a, b, c] ta) (hi : X.N[i]? = some x := by rfl) (hj : X.N[j]? = some y := by rfl) (hk : X.N[k]? = some z := by rfl)
    (hij : i ≠ j := by decide) (hik : i ≠ k := by decide) (hjk : j ≠ k := by decide)
    (hx : X.env.scope.names.lookup x = some .local := by rfl) (hy : X.env.scope.names.lookup y = some .local := by rfl) (hz : X.env.scope.names.lookup z = some .local := by rfl)
    (hw : swappedStores [.Tuple [.Name x px, .Name y py, .Name z pz] kt pt] (.Tuple [a, b, c] k2 pt2) X.env = pure (some [x, y, z]) := by rfl)
    (hs : swapsWithSole [.Tuple [.Name x px, .Name y py, .Name z pz] kt pt] (.Tuple [a, b, c] k2 pt2) pos.line X.env = pure false := by rfl) :
    MS X W (.Assign [.Tuple [.Name x px, .Name y py, .Name z pz] kt pt] (.Tuple [a, b, c] k2 pt2) pos) (par3S i j k ta) :=
  PS.weak (ps_par3 hc hN hi hj hk hij hik hjk hx hy hz ha hw hs) fun E σ H ⟨w, l, h, s, sl, r⟩ =>
    tG_mono (fun x H1 ⟨w1, ds, h1, l1, s1, k1, rx, r1⟩ => by
      split at r1
      · rename_i x y z
        obtain ⟨v, _, rfl, r2, u, _, rfl, r3, t, _, rfl, r4, rfl⟩ := rx
        exact ⟨v, u, t, rfl, ResS.next r1 s1 ((((sl.le l1).set r2 i).set r3 j).set r4 k)⟩
      · exact r1.elim) (bindS_read s sl r)
/-! ### t * n -/
theorem mul_empty {prog : Program} {w : World} {A : Around} {E : Value → Shared → Prop} {s : Shared} {l : Addr} {n : Nat} {dd : Option Addr} {sl : Array (Option Value)} {k : Int} {u : Tok} {Q : Value → Shared → Prop}
    (ho : s.heap.get? l = some { cls := .type "tuple", dict := dd, data := .seq #[] n, slots := sl }) (h1 : 2 ≤ k) (h2 : k ≤ 1000) (h : Q (.ref l) s) : wpAny (model prog w) A (binaryOp .Mult (.ref l) (.int k u)) Q E s := by
  have c0 : (decide (k < -(2 ^ 63)) || decide (k ≥ 2 ^ 63)) = false := by
    rw [decide_eq_false (by omega), decide_eq_false (by omega)] <;> rfl
  have m : Meets (Builtin.«tuple.__mul__» ⟨[.ref l, .int k u], []⟩) (fun _ R s => s.heap.get? l = some { cls := .type "tuple", dict := dd, data := .seq #[] n, slots := sl } ∧ R (.ok (.ret (Value.ref l))) s) :=
    .of_wp fun prog w A R s h => by
      obtain ⟨hp, g, d, tk, os⟩ := s
      obtain ⟨hl, h⟩ := h
      have f1 := AutoSeq1.idx_int
      wp_walk using wpAny_loadPart' hl
      refine wpAny_ite_false (decide_eq_false (by rw [c0]; exact Bool.false_ne_true)) ?_
      wp_walk using wpAny_loadPart' hl
      exact ⟨_, rfl, h⟩
  exact wpAny_binaryOp_repeat_ref (T := "tuple") (U := "int") (by decide) ⟨_, ho, rfl⟩ (fun s' => typeIs_int s' k u) noFill_tuple_mul F.fills_int_mul F.slot_int_rmul repeat_tuple F.slot_int_index.lookup
    (call_meets F.slot_int_rmul (typeIs_int s k u) F.entry_int_rmul (F.args_int_rmul_2 _ _) (int_rmul_tuple k u l #[] n dd sl)
      ⟨ho, rfl, ⟨_, ho, rfl⟩, call_meets F.slot_tuple_mul ⟨_, ho, rfl⟩ F.entry_tuple_mul (F.args_tuple_mul_2 _ _) m ⟨ho, h⟩⟩)
theorem op_repE : OpR X (binaryOp .Mult) (fun x y H Q => ∃ l k, x = .ref l ∧ y = .int k ∧ SqT X.K H l [] ∧ 2 ≤ k ∧ k ≤ 1000 ∧ Q (.ref l) H) := by
  intro pins s σ H x y v u Q I rx ry h
  obtain ⟨l, k, rfl, rfl, hT, h1, h2, q⟩ := h
  cases rx
  obtain ⟨t, rfl⟩ := ry
  obtain ⟨its, r, ⟨⟨cls, dd, data, sl⟩, ho, hc, n, hd⟩, hs⟩ := I.tuple hT
  simp only at hc hd
  subst hc hd
  cases r
  exact mul_empty ho h1 h2 ⟨.ref l, H, I, rfl, q⟩
def mulTD (h : Hc) (x y : D) : Option D := match x, y with
  | .tup xs, .int k => if 2 ≤ k ∧ k ≤ 1000 ∧ xs.length ≤ 1000 then some (.tup (List.replicate k.toNat xs).flatten) else none
  | x, y => mulD h x y
theorem RVs.rep {K : PySem.W.Frag} {w : Wd} {ds : List D} {vs : List V} (r : RVs K w ds vs) : ∀ n : Nat, RVs K w (List.replicate n ds).flatten (List.replicate n vs).flatten
  | 0 => rfl
  | n + 1 => by
    rw [List.replicate_succ, List.replicate_succ, List.flatten_cons, List.flatten_cons]
    exact r.append (RVs.rep r n)
theorem om_mulT : OpM X (binaryOp .Mult) mulTD := by
  intro w h dx dy d pins s σ H x y v u Q e si r1 r2 I rx ry q
  unfold mulTD at e
  split at e
  · rename_i xs k
    split at e
    · rename_i z
      cases e
      cases (show y = _ from r2)
      obtain ⟨p, vs, rfl, sq, zz, rv⟩ := id r1
      have lv := rv.length
      cases xs with
      | nil =>
        have ev : vs = [] := List.eq_nil_of_length_eq_zero (by simpa using lv)
        subst ev
        refine op_repE pins s σ H _ _ v u Q I rx ry ⟨p, k, rfl, rfl, SqT.le si.fx sq, z.1, z.2.1, ?_⟩
        have e0 : (List.replicate k.toNat ([] : List D)).flatten = [] := by
          apply List.eq_nil_of_length_eq_zero
          simp
        rw [e0] at q
        exact q w H _ w.le_refl si (Keep.refl _ _ _) r1
      | cons x0 xs0 =>
        refine op_repT pins s σ H _ _ v u Q I rx ry ⟨p, k, vs, rfl, rfl, SqT.le si.fx sq, fun e0 => ?_, z.1, z.2.1, by rw [lv]; exact z.2.2, fun t ht => new_tup si ?_ (rv.rep k.toNat) q ht⟩
        · rw [e0] at lv; simp at lv
        · rw [PyProof.Rows.lm_len_rep_flat, sizeLine_eq]
          have := Nat.mul_le_mul (show k.toNat ≤ 1000 by omega) z.2.2
          omega
    · cases e
  · exact om_mul w h dx dy d pins s σ H x y v u Q e si r1 r2 I rx ry q
/-! ### t[::-1] -/
theorem back_applied {prog : Program} {w : World} {A : Around} {E : Value → Shared → Prop} {s : Shared} {sl : Addr} {vl vu vs : Value} {n : Nat} {Q : Int × Int × Nat → Shared → Prop} (hs : s.heap.IsSliceOf sl vl vu vs) (pl : IsPart vl none) (pu : IsPart vu none) (ps : IsPart vs (some (-1)))
    (h : Q ((n : Int) - 1, -1, n) s) : wpAny (model prog w) A (Builtin.Slice.sliceApplied (.ref sl) (pure (n : Int))) Q E s := by
  obtain ⟨os, hos, hcs, hds⟩ := id hs
  unfold Builtin.Slice.sliceApplied Builtin.Slice.sliceFields
  refine wpAny_bind (wpAny_bind (wpAny_field hos hds (x := vl) rfl (wpAny_bind (wpAny_field hos hds (x := vu) rfl (wpAny_bind (wpAny_field hos hds (x := vs) rfl (wpAny_pure ?_)))))))
  refine wpAny_bind (HT.slicePart_ ps ?_)
  refine wpAny_ite_false (by decide) ?_
  refine wpAny_bind (HT.slicePart_ pl (wpAny_bind (HT.slicePart_ pu (wpAny_bind (wpAny_pure ?_)))))
  have e1 : Builtin.Slice.sliceAdjust none none (-1) (n : Int) = ((n : Int) - 1, -1) := by simp [Builtin.Slice.sliceAdjust]
  have e2 : Builtin.Slice.slicePlaces ((n : Int) - 1) (-1) (-1) = n := by
    unfold Builtin.Slice.slicePlaces
    rw [if_neg (by omega)]
    split
    · rw [show - (-1 : Int) = 1 by decide, Int.ediv_one]; omega
    · omega
  show wpAny _ _ (match Builtin.Slice.sliceAdjust none none (-1) (n : Int) with | (lo, hi) => pure (lo, (-1 : Int), Builtin.Slice.slicePlaces lo hi (-1))) _ _ s
  rw [e1]
  show wpAny _ _ (pure ((n : Int) - 1, (-1 : Int), Builtin.Slice.slicePlaces ((n : Int) - 1) (-1) (-1))) _ _ s
  rw [e2]
  exact wpAny_pure h
theorem back_pick (xs : List Value) : ((List.range xs.length).filterMap fun (k : Nat) => xs.toArray[((xs.length : Int) - 1 + (k : Int) * -1).toNat]?) = xs.reverse := by
  apply List.ext_getElem?
  intro i
  have e : (List.range xs.length).filterMap (fun (k : Nat) => xs.toArray[((xs.length : Int) - 1 + (k : Int) * -1).toNat]?) = (List.range xs.length).map (fun k => xs.getD (xs.length - 1 - k) Value.none) := by
    have go : ∀ l : List Nat, (∀ k ∈ l, k < xs.length) → l.filterMap (fun (k : Nat) => xs.toArray[((xs.length : Int) - 1 + (k : Int) * -1).toNat]?) = l.map (fun k => xs.getD (xs.length - 1 - k) Value.none) := by
      intro l
      induction l with
      | nil => intro _; rfl
      | cons k l ih =>
        intro hl
        have hk := hl k List.mem_cons_self
        have e1 : ((xs.length : Int) - 1 + (k : Int) * -1).toNat = xs.length - 1 - k := by omega
        have hlt : xs.length - 1 - k < xs.length := by omega
        have e2 : xs.toArray[((xs.length : Int) - 1 + (k : Int) * -1).toNat]? = some (xs.getD (xs.length - 1 - k) Value.none) := by
          rw [e1]
          simp [hlt]
        rw [List.filterMap_cons_some (f := fun (k : Nat) => xs.toArray[((xs.length : Int) - 1 + (k : Int) * -1).toNat]?) e2, List.map_cons, ih fun k' h' => hl k' (List.mem_cons_of_mem _ h')]
    exact go _ fun k hk => List.mem_range.mp hk
  rw [e, List.getElem?_map]
  by_cases hi : i < xs.length
  · rw [List.getElem?_range hi, List.getElem?_reverse hi]
    have hl : xs.length - 1 - i < xs.length := by omega
    simp [hl]
  · rw [List.getElem?_eq_none (by simpa using hi), List.getElem?_eq_none (by simpa using hi)]; rfl
theorem getItem_back {prog : Program} {w : World} {A : Around} {E : Value → Shared → Prop} {s : Shared} {t sl : Addr} {its : List Value} {vl vu vs : Value} {Q : Value → Shared → Prop} (ht : PyProof.Rows.IsTup s.heap t its.toArray) (hs : s.heap.IsSliceOf sl vl vu vs) (pl : IsPart vl none) (pu : IsPart vu none) (ps : IsPart vs (some (-1)))
    (h : Q (.ref s.heap.objs.size) { s with heap := s.heap.push { cls := .type "tuple", data := .seq its.reverse.toArray } }) (hsz : its.length ≤ sizeLine) : wpAny (model prog w) A (getItem (.ref t) (.ref sl)) Q E s := by
  have okz : sizeOk (.seq its.reverse.toArray) := by
    show its.reverse.toArray.size ≤ sizeLine
    simpa using hsz
  obtain ⟨os, hos, hcs, hds⟩ := id hs
  have hTs : s.TypeIs (.ref sl) "slice" := ⟨os, hos, hcs⟩
  unfold getItem
  try with_reducible refine wpAny_holding ?_
  try refine wpAny_bind (wpAny_pure ?_)
  refine wpAny_bind (wpAny_sequenceKey ht.typeIs (by decide) ?_)
  refine wpAny_bind (wpAny_callSpecial?_slot (name := Str.ofString "__getitem__") ht.typeIs PyProof.Rows.slot_tuple_getitem (wpAny_call_entry PyProof.Rows.slot_tuple_getitem ht.typeIs PyProof.Rows.entry_tuple_getitem ?_ (PyProof.Rows.args_tuple_getitem _ _)))
  show wpAny _ _ (Builtin.Tuple.tupleItemsOf (.ref t) >>= _) _ _ s
  refine wpAny_bind (PyProof.Rows.tupleItemsOf_ ht (wpAny_bind (wpAny_typeOf hTs ?_)))
  rw [if_pos (by decide)]
  have en : its.toArray.size = its.length := List.size_toArray
  rw [en]
  refine wpAny_bind (back_applied (n := its.length) hs pl pu ps ?_)
  refine wpAny_ite_false (by simp) ?_
  show wpAny _ _ (Builtin.Tuple.tupleExact ((List.range its.length).filterMap fun (k : Nat) => its.toArray[((its.length : Int) - 1 + (k : Int) * -1).toNat]?).toArray >>= _) _ _ s
  rw [back_pick]
  first
    | exact wpAny_bind (wpAny_newObj_type (wpAny_pure ⟨_, rfl, wpAny_pure h⟩) okz)
    | exact wpAny_bind (wpAny_newObj_type (wpAny_bind (wpAny_pure (wpAny_pure ⟨_, rfl, wpAny_pure h⟩))) okz)
    | exact wpAny_bind (wpAny_newObj_type (wpAny_pure (wpAny_pure ⟨_, rfl, wpAny_pure h⟩)) okz)
def tRevT (K : PySem.W.Frag) (te : TE) : TE := fun σ H Q => te σ H fun x H1 => ∃ p xs, x = .ref p ∧ SqT K H1 p xs ∧ ∀ q, H1 q = none → Q (.ref q) (upd H1 q (.tup xs.reverse))
theorem pe_revT {te : TE} {k : Nat} {p1 p2 p3 : Pos} (he : PE X e te) : PE X (.Subscript e (.Slice none none (some (.UnaryOp .USub (.Constant (.int 1) k p1) p2)) p3) pos) (tRevT X.K te) := by
  refine ⟨fun pins s σ H Q I h => ?_⟩
  refine PyProof.Rows.Subscript_ (thn (he.run pins s σ H _ I h) fun v s1 ⟨x, H1, I1, r1, p, xs, ex, hx, q⟩ => ?_)
  subst ex
  cases r1
  have minus : PO X (some (.UnaryOp .USub (.Constant (.int 1) k p1) p2)) (tPart (tUn (rU fun i => .int (-i)) (tC (.int 1)))) := po_some (pe_un un_neg pe_int)
  refine wpAny_Slice (thn (po_none.run pins s1 σ H1 (fun o H2 => o = none ∧ H2 = H1) I1 ⟨rfl, rfl⟩) fun vl s2 ⟨l, H2, I2, pl, el, e2⟩ => ?_)
  subst el e2
  refine thn (po_none.run pins s2 σ H2 (fun o H3 => o = none ∧ H3 = H2) I2 ⟨rfl, rfl⟩) fun vu s3 ⟨u, H3, I3, pu, eu, e3⟩ => ?_
  subst eu e3
  refine thn (minus.run pins s3 σ H3 (fun o H4 => o = some (-1) ∧ H4 = H3) I3 ⟨1, rfl, -1, rfl, rfl, rfl⟩) fun vs s4 ⟨o, H4, I4, ps, eo, e4⟩ => ?_
  subst eo e4
  have I5 : L2.Inv X pins σ H4 { s4 with heap := s4.heap.push { cls := .type "slice", data := .fields #[vl, vu, vs] } } := I4.kept (t' := s4.toks) fun b ob q => Heap.get?_push_of_some _ q
  obtain ⟨its, r, ht, hz⟩ := I5.tuple hx
  have hlen := r.length
  show wpAny (model X.prog X.w) X.A (PyProof.Rows.subscriptTail e (.Slice none none (some (.UnaryOp .USub (.Constant (.int 1) k p1) p2)) p3) (.ref p) (.ref s4.heap.objs.size)) (EP X pins σ Q) X.xe _
  refine PyProof.Rows.tail_any (ops := [.ref p, .ref s4.heap.objs.size]) ht.typeIs PyProof.Rows.slot_tuple_getitem.lookup ?_ (by with_unfolding_all rfl)
  refine getItem_back ht (Heap.IsSliceOf.new _ vl vu vs) pl pu ps ?_ (by rw [← hlen]; exact hz)
  refine ⟨.ref _, _, I5.laid (t' := s4.toks) (o := .tup xs.reverse) (fun b ob q => Heap.get?_push_of_some _ q) (Nat.le_refl _) ?_, rfl, q _ (I5.hok.fresh (Nat.le_refl _))⟩
  exact ⟨by rw [List.length_reverse]; exact hz, _, r.reverse, PyProof.Rows.IsTup.new _ _⟩
def revD (h : Hc) (x : D) : Option D := match x with
  | .tup xs => some (.tup xs.reverse)
  | .lst xs => some (.lst xs.reverse)
  | _ => none
def revV (m : L → M D) : L → M D := fun l => (m l).bind fun x => rdo fun h => revD h x
theorem PE.or {e : Expr} {t t' : TE} (h : PE X e t) (h' : PE X e t') : PE X e (fun σ H Q => t σ H Q ∨ t' σ H Q) := ⟨fun pins s σ H Q I q => q.elim (h.run pins s σ H Q I) (h'.run pins s σ H Q I)⟩
theorem me_rev {k : Nat} {p1 p2 p3 : Pos} (ha : ME X W a ma) : ME X W (.Subscript a (.Slice none none (some (.UnaryOp .USub (.Constant (.int 1) k p1) p2)) p3) pos) (revV ma) :=
  PE.weak (PE.or (pe_revT ha) (pe_revL ha)) fun σ H Q ⟨w, l, h, s, sl, r⟩ => by
    have r' := r
    unfold revV M.bind at r
    cases e : ma l h with
    | bad => rw [e] at r; exact r.elim
    | exc c d h' => rw [e] at r; exact .inl ⟨w, l, h, s, sl, by rw [e]; exact r⟩
    | ok d h' =>
      rw [e] at r
      have key : ∀ {P : VK}, (∀ w1 H1 x, w.le w1 → Sim X.K w1 h' H1 → Keep w h H w1 h' H1 → RV X.K w1 d x → P x H1) → tG X.K X.mg W (RV X.K) ma σ H P := fun k => ⟨w, l, h, s, sl, by rw [e]; exact k⟩
      have r : Res X.K X.mg (RV X.K) w h H σ W Q (rdo (fun h => revD h d) h') := r
      cases d with
      | tup ds =>
        refine .inl (key fun w1 H1 x l1 s1 k1 ⟨p, vs, ex, q, z, rv⟩ => ⟨p, vs, ex, SqT.le s1.fx q, fun t ht => ?_⟩)
        exact new_tup s1 (by simpa using z) rv.reverse (fun w2 H2 v l2 s2 k2 rr => r w2 H2 v (l1.trans l2) s2 (k1.trans k2) rr) ht
      | lst ds =>
        refine .inr (key fun w1 H1 x l1 s1 k1 ⟨p, vs, ex, q, z, rv⟩ => ⟨p, vs, ex, SqL.of (s1.fx _ _ q), fun t ht => ?_⟩)
        exact new_lst s1 (by simpa using z) rv.reverse (fun w2 H2 v l2 s2 k2 rr => r w2 H2 v (l1.trans l2) s2 (k1.trans k2) rr) ht
      | _ => exact r.elim
end
end Mz

/-! sets of texts: set(xs), sorted(set(xs)), len(set(xs)) -/
namespace Mz
open PySem PySem.Spec PyProof.Rows L2
def txtOf (c : Int × Value) : Str := match c.2 with
  | .str z _ => z
  | _ => Str.empty
def TxtE (w : World) (c : Int × Value) : Prop := ∃ z tk, c.2 = Value.str z tk ∧ c.1 = hashStr w z
/-- the set of texts at p: M tells its members, n how many; its table can be walked -/
def TSet (w : World) (h : Heap) (p : Addr) (M : Str → Bool) (n : Nat) : Prop :=
  ∃ ob cs ep tb, h.get? p = some ob ∧ ob.ExactSet ∧ ob.data = .set cs ep tb ∧ (∀ c ∈ cs.toList, TxtE w c) ∧ (cs.toList.map txtOf).Nodup ∧ (∀ z, M z = true ↔ z ∈ cs.toList.map txtOf) ∧
    cs.size < scanBound ∧ tb.fits cs.size = true ∧ cs.size = n ∧ Ris tb.place.toList ∧ (w.params.followText "set-order" = true ∨ tb.led = true)
section
variable {P : Program} {w : World} {h h' : Heap} {p : Addr} {M : Str → Bool} {n : Nat}
theorem TSet.kept (R : TSet w h p M n) (k : ∀ ob, h.get? p = some ob → h'.get? p = some ob) : TSet w h' p M n :=
  let ⟨ob, cs, ep, tb, e0, rest⟩ := R
  ⟨ob, cs, ep, tb, k ob e0, rest⟩
theorem txt_elems {l : List (Int × Value)} (g : ∀ c ∈ l, TxtE w c) : ElemsOf (PySem.strKind P w) l := fun c hc => by
  obtain ⟨z, tk, e1, e2⟩ := g c hc
  refine ⟨⟨z, by rw [e1]; exact strKind_is P w z tk, e2⟩, ?_⟩
  rw [e1]; rfl
theorem txt_is {c : Int × Value} (g : TxtE w c) (z : Str) : (PySem.strKind P w).is z c.2 = true ↔ txtOf c = z := by
  obtain ⟨z0, tk, e1, _⟩ := g
  unfold txtOf
  rw [e1]
  simp [PySem.strKind, Value.isStrOf]
theorem txt_mem {l : List (Int × Value)} (g : ∀ c ∈ l, TxtE w c) (z : Str) : z ∈ l.map txtOf ↔ ∃ c ∈ l, (PySem.strKind P w).is z c.2 = true := by
  simp only [List.mem_map]
  exact ⟨fun ⟨c, hc, q⟩ => ⟨c, hc, (txt_is (g c hc) z).2 q⟩, fun ⟨c, hc, q⟩ => ⟨c, hc, (txt_is (g c hc) z).1 q⟩⟩
end
section
variable {P : Program} {w : World} {A : Around} {E : Value → Shared → Prop} {s : Shared} {p : Addr} {M : Str → Bool} {n : Nat}
/-- what comes behind the place: the entries stored, the table grown if need be -/
theorem tset_tail {say : Bool → Sem Unit} (hsay : ∀ (b : Bool) (s₁ : Shared) (Q' : Unit → Shared → Prop), Q' () s₁ → wpAny (model P w) A (say b) Q' E s₁)
    {ob : Obj} {cs0 cs1 : Array (Int × Value)} {ep : Nat} {tb tb2 : SetTable} {M' : Str → Bool} (e0 : s.heap.get? p = some ob) (ex : ob.ExactSet) (ed : ob.data = .set cs0 ep tb)
    (g1 : ∀ c ∈ cs1.toList, TxtE w c) (nd1 : (cs1.toList.map txtOf).Nodup) (m1 : ∀ z, M' z = true ↔ z ∈ cs1.toList.map txtOf)
    (b1 : cs1.size < scanBound) (f1 : tb2.fits cs1.size = true) (r1 : Ris tb2.place.toList) (l1 : w.params.followText "set-order" = true ∨ tb2.led = true) {dm : Bool} {R : Option Bool → Shared → Prop}
    (hR : ∀ h', Heap.SameBut p s.heap h' → TSet w h' p M' cs1.size → R (some true) { s with heap := h' }) :
    wpAny (model P w) A (do
        storeSet p cs1 tb2
        if (!dm && tb2.tooFull) = true then do
            say (relayAll tb2 cs1 (SetTable.grown cs1.size)).2.2
            storeSet p (relayAll tb2 cs1 (SetTable.grown cs1.size)).1 (relayAll tb2 cs1 (SetTable.grown cs1.size)).2.1
            pure (some true)
          else pure (some true)) R E s := by
  refine wpAny_bind (wpAny_storeSet_of e0 ed ?_ (fits_of_scanBound b1))
  have e1 := store_at (es' := cs1) (t' := tb2) e0 ed
  have sb := Heap.SameBut.update s.heap p (Obj.putSet cs1 tb2)
  split
  · have q1 := relayAll_perm tb2 cs1 (SetTable.grown cs1.size)
    have q2 := relayAll_fits tb2 cs1 (SetTable.grown cs1.size)
    have q3 := relayAll_ris tb2 cs1 (SetTable.grown cs1.size)
    have q4 := relayAll_led tb2 cs1 (SetTable.grown cs1.size)
    generalize relayAll tb2 cs1 (SetTable.grown cs1.size) = laid at q1 q2 q3 q4 ⊢
    obtain ⟨cs2, tb3, gave⟩ := laid
    dsimp only at q1 q2 q3 q4 ⊢
    have sz : cs2.size = cs1.size := by rw [← Array.length_toList, q1.length_eq, Array.length_toList]
    have b2 : cs2.size < scanBound := by rw [sz]; exact b1
    refine wpAny_bind (hsay _ _ _ (wpAny_bind (wpAny_storeSet_of e1 rfl ?_ (fits_of_scanBound b2))))
    have e2 := store_at (es' := cs2) (t' := tb3) e1 rfl
    refine wpAny_pure (hR _ (sb.trans (Heap.SameBut.update _ p _)) ⟨_, cs2, _, tb3, e2, ex, rfl, fun c hc => g1 c (q1.mem_iff.mp hc), (q1.map txtOf).nodup_iff.mpr nd1, fun z => (m1 z).trans (q1.map txtOf).mem_iff.symm, b2, q2, sz, q3, ?_⟩)
    rcases l1 with z | z
    · exact .inl z
    · exact .inr (q4.trans z)
  · exact wpAny_pure (hR _ sb ⟨_, cs1, _, tb2, e1, ex, rfl, g1, nd1, m1, b1, f1, rfl, r1, l1⟩)
theorem tset_add {z : Str} {tk : Tok} {Q : Bool → Shared → Prop} (R : TSet w s.heap p M n) (room : n + 1 < scanBound)
    (hQ : ∀ h', Heap.SameBut p s.heap h' → TSet w h' p (fun y => M y || decide (y = z)) (if M z = true then n else n + 1) → Q (!M z) { s with heap := h' }) :
    wpAny (model P w) A (setAddHashed p (.str z tk) ((PySem.strKind P w).hash z)) Q E s := by
  obtain ⟨ob, cs, ep, tb, e0, ex, ed, g, nd, hm, b0, f0, hn, r0, l0⟩ := R
  have isz : (PySem.strKind P w).is z (.str z tk) = true := strKind_is P w z tk
  have scn : (Value.str z tk).scannable = true := rfl
  have els : ElemsOf (PySem.strKind P w) cs.toList := txt_elems g
  unfold setAddHashed setAddHashedIn
  refine wpAny_holding (wpAny_bind (wpAny_setState_of e0 ed f0 ?_))
  dsimp only
  rw [byScan_of scn b0 els]
  simp only [↓reduceIte]
  unfold setAddByScan
  refine wpAny_bind (wpAny_bind (wpAny_rule (wpAny_bind (wpAny_setScan_of isz e0 ed f0 els ?_))))
  cases fi : List.findIdx? (fun c => (PySem.strKind P w).is z c.2) cs.toList with
  | some j =>
    dsimp only
    obtain ⟨hj, pj, _⟩ := List.findIdx?_eq_some_iff_getElem.mp fi
    have mz : M z = true := (hm z).2 ((txt_mem (P := P) g z).2 ⟨cs.toList[j], List.getElem_mem hj, pj⟩)
    refine wpAny_pure (wpAny_pure ?_)
    have fin := hQ s.heap (Heap.SameBut.refl p s.heap) ⟨ob, cs, ep, tb, e0, ex, ed, g, nd, fun y => by
      simp only [Bool.or_eq_true, decide_eq_true_eq, ← hm y]
      exact ⟨fun q => q.elim id fun e => e ▸ mz, .inl⟩, b0, f0, by rw [if_pos mz]; exact hn, r0, l0⟩
    rw [mz] at fin
    exact fin
  | none =>
    dsimp only
    have nz : z ∉ cs.toList.map txtOf := fun q => by
      obtain ⟨c, hc, q'⟩ := (txt_mem (P := P) g z).1 q
      have := List.findIdx?_eq_none_iff.mp fi c hc
      rw [q'] at this
      cases this
    have mz : M z = false := by
      cases q : M z with
      | false => rfl
      | true => exact absurd ((hm z).1 q) nz
    have ways : ∀ (b : Bool) {s₁ : Shared} {Q' : Unit → Shared → Prop}, Q' () s₁ → wpAny (model P w) A (match b with | true => rule "set.scan.the-table-gave-way" | false => pure ()) Q' E s₁ := fun b s₁ Q' q => by
      cases b
      · exact wpAny_pure q
      · exact wpAny_rule q
    have q1 := layNew_perm tb cs ((PySem.strKind P w).hash z) (.str z tk)
    have q2 := layNew_fits tb cs ((PySem.strKind P w).hash z) (.str z tk)
    have q3 := layNew_ris tb cs ((PySem.strKind P w).hash z) (.str z tk) r0
    have q4 := layNew_led tb cs ((PySem.strKind P w).hash z) (.str z tk)
    generalize layNew tb cs ((PySem.strKind P w).hash z) (.str z tk) = laid at q1 q2 q3 q4 ⊢
    obtain ⟨cs1, tb1, dm, gave⟩ := laid
    dsimp only at q1 q2 q3 q4 ⊢
    rw [Array.toList_push] at q1
    have pc : cs1.toList.Perm (((PySem.strKind P w).hash z, Value.str z tk) :: cs.toList) := q1.trans (List.perm_append_singleton _ _)
    have pk : (cs1.toList.map txtOf).Perm (z :: cs.toList.map txtOf) := pc.map txtOf
    have g1 : ∀ c ∈ cs1.toList, TxtE w c := fun c hc => by
      rcases List.mem_cons.mp (pc.mem_iff.mp hc) with q | q
      · exact ⟨z, tk, by rw [q], by rw [q]; rfl⟩
      · exact g c q
    have nd1 : (cs1.toList.map txtOf).Nodup := pk.nodup_iff.mpr (List.nodup_cons.mpr ⟨nz, nd⟩)
    have m1 : ∀ y, (M y || decide (y = z)) = true ↔ y ∈ cs1.toList.map txtOf := fun y => by
      simp only [Bool.or_eq_true, decide_eq_true_eq, hm y, pk.mem_iff, List.mem_cons]
      exact Or.comm
    have sz : cs1.size = n + 1 := by rw [← Array.length_toList, pc.length_eq, List.length_cons, Array.length_toList, hn]
    have b1 : cs1.size < scanBound := by rw [sz]; exact room
    have l1 : w.params.followText "set-order" = true ∨ tb1.led = true := l0.elim .inl fun q => .inr (q4.trans q)
    have fin : ∀ h', Heap.SameBut p s.heap h' → TSet w h' p (fun y => M y || decide (y = z)) cs1.size → Q true { s with heap := h' } := fun h' sb r => by
      have q := hQ h' sb
      rw [mz] at q
      rw [sz] at r
      exact q r
    refine wpAny_bind (ways _ ?_)
    split
    · refine wpAny_bind ?_
      rw [hashByValue_scannable 8 scn]
      refine wpAny_pure (tset_tail ?_ e0 ex ed g1 nd1 m1 b1 ?_ ?_ ?_ ?_)
      · intro b s₁ Q' q
        cases b
        · exact wpAny_pure q
        · exact wpAny_rule q
      · first | (split <;> first | exact q2 | exact SetTable.fits_plain_off q2) | exact q2
      · first | (split <;> exact q3) | exact q3
      · first | (split <;> exact l1) | exact l1
      · intro h' sb r
        exact wpAny_pure (fin h' sb r)
    · refine wpAny_bind (wpAny_pure ?_)
      simp only [↓reduceIte]
      refine tset_tail ?_ e0 ex ed g1 nd1 m1 b1 q2 q3 l1 ?_
      · intro b s₁ Q' q
        cases b
        · exact wpAny_pure q
        · exact wpAny_rule q
      · intro h' sb r
        exact wpAny_pure (fin h' sb r)
theorem tset_fresh {h : Heap} (w : World) : TSet w (h.push { cls := .type "set", dict := none, data := .set #[] 0 (.fresh 0 0 (!w.params.followText "set-order")) }) h.objs.size (fun _ => false) 0 := by
  refine ⟨_, #[], 0, _, Heap.get?_push_size _ rfl, ⟨rfl, rfl, rfl⟩, rfl, fun c hc => by simp at hc, by simp, fun z => by simp, by decide, by rfl, rfl, List.Pairwise.nil, ?_⟩
  show _ ∨ (!w.params.followText "set-order") = true
  cases w.params.followText "set-order"
  · exact .inr rfl
  · exact .inl rfl
end
section
variable {prog : Program} {w : World} {A : Around} {R : Result → Shared → Prop} {I : Addr} {fp wr : List Addr} {G : Array GenState → Array GenState → Prop} {n : Nat} {P : Nat → Value → Prop} {St : Nat → Shared → Prop}
/-- set.update's loop over texts -/
theorem tset_loop (W : WalksS prog w A.in1 I fp wr G n P St) (p : Addr) (out : p ∉ fp) (xs : List Str) (len : xs.length = n) (few : n + 1 < scanBound) (hval : ∀ i v, P i v → ∃ t, v = .str (xs.getD i Str.empty) t) :
    ∀ (k i : Nat) (s : Shared) (c : Nat), n - i = k → i ≤ n → c ≤ i → St i s → TSet w s.heap p (fun y => decide (y ∈ xs.take i)) c →
      (∀ s' c', Moved (p :: wr) G s s' → c' ≤ n → TSet w s'.heap p (fun y => decide (y ∈ xs)) c' → R (.ok (.ret .none)) s') →
      codeAny (model prog w) A (.builtin "set.update.loop" ⟨[.ref p, .ref I], []⟩) R s := by
  have outw : p ∉ wr := fun q => out (W.sub _ q)
  have sub : ∀ b ∈ wr, b ∈ p :: wr := fun b hb => List.mem_cons_of_mem _ hb
  intro k
  induction k with
  | zero =>
    intro i s c hk hi hc hst hS hR
    have hin : i = n := by omega
    subst hin
    refine codeAny_builtin PyProof.Rows.F.entry_set_update_loop ?_
    rw [Around.under_plainId PyProof.Rows.F.plain_set_update_loop _]
    show wpAny _ A.in1 (pyNext (.ref I) >>= _) _ _ s
    refine wpAny_bind (W.done s _ _ hst fun s' hm => ?_)
    show wpAny _ A.in1 (ret Value.none) _ _ s'
    refine wpAny_pure (hR s' c (hm.mono sub) hc ?_)
    have e : xs.take i = xs := List.take_of_length_le (by omega)
    rw [e] at hS
    exact hS.kept fun ob q => hm.heap p _ outw q
  | succ k ih =>
    intro i s c hk hi hc hst hS hR
    have hlt : i < n := by omega
    refine codeAny_builtin PyProof.Rows.F.entry_set_update_loop ?_
    rw [Around.under_plainId PyProof.Rows.F.plain_set_update_loop _]
    show wpAny _ A.in1 (pyNext (.ref I) >>= _) _ _ s
    refine wpAny_bind (W.item i s _ _ hlt hst fun v s' hP hst' hm => ?_)
    obtain ⟨t, rfl⟩ := hval i v hP
    have hS' : TSet w s'.heap p (fun y => decide (y ∈ xs.take i)) c := hS.kept fun ob q => hm.heap p _ outw q
    show wpAny _ A.in1 (holding [Value.str (xs.getD i Str.empty) t] (setAdd p (.str (xs.getD i Str.empty) t)) >>= _) _ _ s'
    refine wpAny_bind (wpAny_holding ?_)
    unfold setAdd
    refine wpAny_holding (wpAny_bind ((PySem.strKind prog w).pyHash (k := xs.getD i Str.empty) (strKind_is _ _ _ _) ?_))
    refine tset_add (s := { s' with toks := s'.toks + 1 }) hS' (by omega) fun h' sb hS2 => ?_
    have hg : xs[i]? = some (xs.getD i Str.empty) := by
      have : i < xs.length := by omega
      simp [this]
    have et : xs.take (i + 1) = xs.take i ++ [xs.getD i Str.empty] := by
      have hl : i < xs.length := by omega
      rw [List.take_succ, hg]; rfl
    have hS3 : TSet w h' p (fun y => decide (y ∈ xs.take (i + 1))) (if decide (xs.getD i Str.empty ∈ xs.take i) = true then c else c + 1) := by
      have : (fun y => decide (y ∈ xs.take (i + 1))) = fun y => decide (y ∈ xs.take i) || decide (y = xs.getD i Str.empty) := by
        funext y
        rw [et]
        simp [List.mem_append]
      rw [this]
      exact hS2
    refine wpAny_pure ⟨plainId_quiet PyProof.Rows.F.plain_set_update_loop _, ih (i + 1) _ _ (by omega) hlt (by split <;> omega) (W.frame _ s' _ _ hst' (Nat.le_succ _) fun b hb ob e => ?_) hS3 fun s'' c'' hm'' hc'' hS'' => ?_⟩
    · rw [sb.2 b fun q => out (by rw [← q]; exact hb)]; exact e
    · refine hR s'' c'' (Moved.trans W.gtrans ((hm.mono sub).then_heap (Nat.le_succ _) fun b ob hb e => ?_) hm'') hc'' hS''
      rw [sb.2 b fun q => hb (by rw [q]; exact List.mem_cons_self)]; exact e
end
section
variable {P : Program} {w : World} {A : Around} {E : Value → Shared → Prop} {s : Shared}
abbrev empS (w : World) : Obj := { cls := .type "set", dict := none, data := .set #[] 0 (.fresh 0 0 (!w.params.followText "set-order")) }

theorem call_set_listT {l : Addr} {its : Array Value} {xs : List Str} {Q : Value → Shared → Prop}
    (calm : A.handled = none) (at0 : s.heap.IsList l its) (txt : PyProof.Rows.StrsAre its.toList xs) (few : xs.length + 1 < scanBound)
    (h : ∀ (h' : Heap) (tk c : Nat), TSet w h' s.heap.objs.size (fun y => decide (y ∈ xs)) c → (∀ b o, s.heap.get? b = some o → h'.get? b = some o) → Q (.ref s.heap.objs.size) { s with heap := h', toks := tk }) :
    wpAny (model P w) A (call (.type "set") [.ref l]) Q E s := by
  obtain ⟨c, tl, m0⟩ := PySem.F.called_set.mro
  have m1 := PySem.F.called_set.made
  have m2 := PySem.F.called_set.sub
  refine wpAny_call (codeAny_of_tree ?_)
  show wpAny _ _ (callAny (.type "set") _) _ _ _
  refine wpAny_pure ⟨Code.quiet_builtin _ (by decide +kernel), codeAny_builtin PySem.F.entry_type_call ?_⟩
  rw [Around.under_plain (weight_type_call_type "set" [.ref l] []) rfl]
  have m3 := PySem.F.called_set.notType
  have m4 := PySem.F.called_set.canCreate
  have m5 := PySem.F.typeCall_set_1 (.ref l)
  repeat (any_goals (first | assumption | wp_step))
  refine codeAny_mono (code_set_led1 (.ref l) (E := E) (Q₁ := fun obj s₁ => obj = .ref s.heap.objs.size ∧ s₁ = { s with heap := s.heap.push (empS w) }) ⟨rfl, rfl⟩) fun r s₁ z => ?_
  cases r with
  | error e => exact z
  | ok fl =>
    cases fl with
    | ret obj =>
      obtain ⟨rfl, rfl⟩ := z
      have g0 : (s.heap.push (empS w)).get? s.heap.objs.size = some (empS w) := Heap.get?_push_size _ rfl
      have ty : Shared.TypeIs { s with heap := s.heap.push (empS w) } (.ref s.heap.objs.size) "set" := ⟨_, g0, rfl⟩
      have m6 := PySem.F.called_set.init.lookup
      have m7 := PySem.F.called_set.init.bind (.ref s.heap.objs.size)
      repeat (any_goals (first | assumption | wp_step))
      refine codeAny_mono (codeAny_call_builtin (R := wants (fun r s₂ => r = .none ∧ ∃ h' tk c, s₂ = { s with heap := h', toks := tk } ∧ TSet w h' s.heap.objs.size (fun y => decide (y ∈ xs)) c ∧
          (∀ b o, s.heap.get? b = some o → h'.get? b = some o)) E) PySem.F.called_set.init.plain PySem.F.entry_set_init (check_set_init_1 ty ?_)) fun r₂ s₂ z₂ => ?_
      · obtain ⟨ol, eo, ec, nl, ed⟩ := at0
        obtain ⟨ocls, odict, odata, oslots⟩ := ol
        simp only at ec ed
        subst ec; subst ed
        have eo' : (s.heap.push (empS w)).get? l = some { cls := .type "list", dict := odict, data := .seq its nl, slots := oslots } := Heap.get?_push_of_some _ eo
        have n1 := PySem.F.sub_list_set
        have n2 := PySem.F.sub_list_frozenset
        have n3 : (Value.type "list" == Value.type "dict") = false := by decide
        have at1 : (s.heap.push (empS w)).IsList l its := ⟨_, eo', rfl, nl, rfl⟩
        unfold Builtin.«set.__init__» noKeywords Builtin.Frozenset.updateFrom
        generalize ePI : pyIter = PI
        wp_walk
        subst ePI
        refine wpAny_pyIter_list at1 ?_
        refine wpAny_bind (wpAny_runValue ?_)
        have lt : l < s.heap.objs.size := Heap.lt_size eo
        have calm3 : A.in1.in1.in1.handled = none := by simp [calm]
        have ne1 : l ≠ (s.heap.push (empS w)).objs.size := by
          rw [Heap.size_push]; exact Nat.ne_of_lt (Nat.lt_succ_of_lt lt)
        have nin : s.heap.objs.size ∉ [(s.heap.push (empS w)).objs.size, l] := by
          rw [Heap.size_push]; simp only [List.mem_cons, List.mem_singleton, List.not_mem_nil, or_false, not_or]
          exact ⟨Nat.ne_of_lt (Nat.lt_succ_self _), Nat.ne_of_gt lt⟩
        have sz : xs.length = its.size := by rw [← StrsAre.len_eq txt, Array.length_toList]
        have val : ∀ (i : Nat) (v : Value), its[i]? = some v → ∃ t, v = .str (xs.getD i Str.empty) t := fun i v hv => SS.strs_at txt i v (by rw [Array.getElem?_toList]; exact hv)
        refine tset_loop ((Walks.list calm3 _ l ne1 its).toS) s.heap.objs.size nin xs sz (by rw [← sz]; exact few) val (its.size - 0) 0 _ 0 (by omega) (Nat.zero_le _) (Nat.le_refl _)
          ⟨⟨_, Heap.get?_push_size _ rfl, rfl, rfl⟩, (at1.push _)⟩ ?start ?fin
        case start =>
          have e0 : (fun y => decide (y ∈ xs.take 0)) = fun _ : Str => false := by funext y; simp
          rw [e0]
          exact (tset_fresh w).kept fun ob q => Heap.get?_push_of_some _ q
        case fin =>
          intro s' c' hm hc' hS'
          obtain ⟨h', g2, d', tk', os'⟩ := s'
          have eg : g2 = s.gens := hm.gens
          have ed : d' = s.drawn := hm.drawn
          have eo : os' = s.os := hm.os
          subst eg; subst ed; subst eo
          show wpAny _ _ _ _ _ _
          refine wpAny_pure ?_
          show wpAny _ _ (ret Value.none) _ _ _
          refine wpAny_pure ⟨rfl, h', tk', c', rfl, hS', fun b o e => ?_⟩
          have b0 : b < s.heap.objs.size := Heap.lt_size e
          have b2 : b ≠ (s.heap.push (empS w)).objs.size := by
            rw [Heap.size_push]; exact Nat.ne_of_lt (Nat.lt_succ_of_lt b0)
          exact hm.heap b o (by simp only [List.mem_cons, List.mem_singleton, List.not_mem_nil, or_false, not_or]; exact ⟨Nat.ne_of_lt b0, b2⟩) (Heap.get?_push_of_some _ (Heap.get?_push_of_some _ e))
      · cases r₂ with
        | error e => exact z₂
        | ok fl₂ =>
          cases fl₂ with
          | ret r =>
            obtain ⟨rfl, h', tk, c', rfl, hS', hk'⟩ := z₂
            repeat (any_goals (first | assumption | wp_step))
            exact h _ _ _ hS' hk'
          | _ => exact z₂.elim
    | _ => exact z.elim

theorem call_set_tupleT {l : Addr} {its : Array Value} {xs : List Str} {Q : Value → Shared → Prop}
    (calm : A.handled = none) (at0 : s.heap.IsTuple l its) (txt : PyProof.Rows.StrsAre its.toList xs) (few : xs.length + 1 < scanBound)
    (h : ∀ (h' : Heap) (tk c : Nat), TSet w h' s.heap.objs.size (fun y => decide (y ∈ xs)) c → (∀ b o, s.heap.get? b = some o → h'.get? b = some o) → Q (.ref s.heap.objs.size) { s with heap := h', toks := tk }) :
    wpAny (model P w) A (call (.type "set") [.ref l]) Q E s := by
  obtain ⟨c, tl, m0⟩ := PySem.F.called_set.mro
  have m1 := PySem.F.called_set.made
  have m2 := PySem.F.called_set.sub
  refine wpAny_call (codeAny_of_tree ?_)
  show wpAny _ _ (callAny (.type "set") _) _ _ _
  refine wpAny_pure ⟨Code.quiet_builtin _ (by decide +kernel), codeAny_builtin PySem.F.entry_type_call ?_⟩
  rw [Around.under_plain (weight_type_call_type "set" [.ref l] []) rfl]
  have m3 := PySem.F.called_set.notType
  have m4 := PySem.F.called_set.canCreate
  have m5 := PySem.F.typeCall_set_1 (.ref l)
  repeat (any_goals (first | assumption | wp_step))
  refine codeAny_mono (code_set_led1 (.ref l) (E := E) (Q₁ := fun obj s₁ => obj = .ref s.heap.objs.size ∧ s₁ = { s with heap := s.heap.push (empS w) }) ⟨rfl, rfl⟩) fun r s₁ z => ?_
  cases r with
  | error e => exact z
  | ok fl =>
    cases fl with
    | ret obj =>
      obtain ⟨rfl, rfl⟩ := z
      have g0 : (s.heap.push (empS w)).get? s.heap.objs.size = some (empS w) := Heap.get?_push_size _ rfl
      have ty : Shared.TypeIs { s with heap := s.heap.push (empS w) } (.ref s.heap.objs.size) "set" := ⟨_, g0, rfl⟩
      have m6 := PySem.F.called_set.init.lookup
      have m7 := PySem.F.called_set.init.bind (.ref s.heap.objs.size)
      repeat (any_goals (first | assumption | wp_step))
      refine codeAny_mono (codeAny_call_builtin (R := wants (fun r s₂ => r = .none ∧ ∃ h' tk c, s₂ = { s with heap := h', toks := tk } ∧ TSet w h' s.heap.objs.size (fun y => decide (y ∈ xs)) c ∧
          (∀ b o, s.heap.get? b = some o → h'.get? b = some o)) E) PySem.F.called_set.init.plain PySem.F.entry_set_init (check_set_init_1 ty ?_)) fun r₂ s₂ z₂ => ?_
      · obtain ⟨ol, eo, ec, nl, ed⟩ := at0
        obtain ⟨ocls, odict, odata, oslots⟩ := ol
        simp only at ec ed
        subst ec; subst ed
        have eo' : (s.heap.push (empS w)).get? l = some { cls := .type "tuple", dict := odict, data := .seq its nl, slots := oslots } := Heap.get?_push_of_some _ eo
        have n1 := PySem.F.sub_tuple_set
        have n2 := PySem.F.sub_tuple_frozenset
        have n3 : (Value.type "tuple" == Value.type "dict") = false := by decide
        have at1 : (s.heap.push (empS w)).IsTuple l its := ⟨_, eo', rfl, nl, rfl⟩
        unfold Builtin.«set.__init__» noKeywords Builtin.Frozenset.updateFrom
        generalize ePI : pyIter = PI
        wp_walk
        subst ePI
        refine wpAny_pyIter_tuple at1 ?_
        refine wpAny_bind (wpAny_runValue ?_)
        have lt : l < s.heap.objs.size := Heap.lt_size eo
        have calm3 : A.in1.in1.in1.handled = none := by simp [calm]
        have ne1 : l ≠ (s.heap.push (empS w)).objs.size := by
          rw [Heap.size_push]; exact Nat.ne_of_lt (Nat.lt_succ_of_lt lt)
        have nin : s.heap.objs.size ∉ [(s.heap.push (empS w)).objs.size, l] := by
          rw [Heap.size_push]; simp only [List.mem_cons, List.mem_singleton, List.not_mem_nil, or_false, not_or]
          exact ⟨Nat.ne_of_lt (Nat.lt_succ_self _), Nat.ne_of_gt lt⟩
        have sz : xs.length = its.size := by rw [← StrsAre.len_eq txt, Array.length_toList]
        have val : ∀ (i : Nat) (v : Value), its[i]? = some v → ∃ t, v = .str (xs.getD i Str.empty) t := fun i v hv => SS.strs_at txt i v (by rw [Array.getElem?_toList]; exact hv)
        refine tset_loop ((Walks.tuple calm3 _ l ne1 its).toS) s.heap.objs.size nin xs sz (by rw [← sz]; exact few) val (its.size - 0) 0 _ 0 (by omega) (Nat.zero_le _) (Nat.le_refl _)
          ⟨⟨_, Heap.get?_push_size _ rfl, rfl, rfl⟩, (at1.push _)⟩ ?start ?fin
        case start =>
          have e0 : (fun y => decide (y ∈ xs.take 0)) = fun _ : Str => false := by funext y; simp
          rw [e0]
          exact (tset_fresh w).kept fun ob q => Heap.get?_push_of_some _ q
        case fin =>
          intro s' c' hm hc' hS'
          obtain ⟨h', g2, d', tk', os'⟩ := s'
          have eg : g2 = s.gens := hm.gens
          have ed : d' = s.drawn := hm.drawn
          have eo : os' = s.os := hm.os
          subst eg; subst ed; subst eo
          show wpAny _ _ _ _ _ _
          refine wpAny_pure ?_
          show wpAny _ _ (ret Value.none) _ _ _
          refine wpAny_pure ⟨rfl, h', tk', c', rfl, hS', fun b o e => ?_⟩
          have b0 : b < s.heap.objs.size := Heap.lt_size e
          have b2 : b ≠ (s.heap.push (empS w)).objs.size := by
            rw [Heap.size_push]; exact Nat.ne_of_lt (Nat.lt_succ_of_lt b0)
          exact hm.heap b o (by simp only [List.mem_cons, List.mem_singleton, List.not_mem_nil, or_false, not_or]; exact ⟨Nat.ne_of_lt b0, b2⟩) (Heap.get?_push_of_some _ (Heap.get?_push_of_some _ e))
      · cases r₂ with
        | error e => exact z₂
        | ok fl₂ =>
          cases fl₂ with
          | ret r =>
            obtain ⟨rfl, h', tk, c', rfl, hS', hk'⟩ := z₂
            repeat (any_goals (first | assumption | wp_step))
            exact h _ _ _ hS' hk'
          | _ => exact z₂.elim
    | _ => exact z.elim

end
end Mz

namespace Mz
open PySem PySem.Spec PyProof.Rows L2
section
variable {P : Program} {w : World} {A : Around} {E : Value → Shared → Prop} {s : Shared} {p : Addr} {M : Str → Bool} {n : Nat}
theorem lt_of_sortedS : ∀ (l : List Str), sortedS l = true → l.Nodup → l.Pairwise (fun a b => a.cps.toList < b.cps.toList) := by
  have key : ∀ (l : List Str) (x : Str), risingS x l = true → (x :: l).Nodup → (x :: l).Pairwise (fun a b => a.cps.toList < b.cps.toList) := by
    intro l
    induction l with
    | nil => intro x _ _; simp
    | cons y r ih =>
      intro x h nd
      have h : (!ltCps y.cps.toList x.cps.toList && risingS y r) = true := h
      rw [Bool.and_eq_true, Bool.not_eq_true', ltCps_eq, decide_eq_false_iff_not] at h
      obtain ⟨nd1, nd2⟩ := List.nodup_cons.mp nd
      have q := ih y h.2 nd2
      have ne : x.cps.toList ≠ y.cps.toList := fun z => nd1 (by
        have : x = y := by rw [← cs_of x, ← cs_of y, z]
        rw [this]; exact List.mem_cons_self)
      have xy : x.cps.toList < y.cps.toList := by
        rcases Std.lt_trichotomy x.cps.toList y.cps.toList with z | z | z
        · exact z
        · exact absurd z ne
        · exact absurd z h.1
      refine List.pairwise_cons.mpr ⟨fun z hz => ?_, q⟩
      rcases List.mem_cons.mp hz with e | e
      · rw [e]; exact xy
      · exact List.lt_trans xy ((List.pairwise_cons.mp q).1 z e)
  intro l h nd
  cases l with
  | nil => exact .nil
  | cons x r => exact key r x h nd
theorem sorted_tset {Q : Value → Shared → Prop} (R : TSet w s.heap p M n) (calm : A.handled = none) (h64 : n < 64)
    (hQ : ∀ s' q (out : Array Value) (c : Nat) (xs : List Str), (∀ b o, s.heap.get? b = some o → s'.heap.get? b = some o) → s'.gens = s.gens → s'.os = s.os → s.heap.objs.size ≤ q →
      s'.heap.get? q = some (seqObj "list" out c) → StrsAre out.toList xs → xs.Pairwise (fun a b => a.cps.toList < b.cps.toList) → (∀ k, k ∈ xs ↔ M k = true) → xs.length = n → Q (.ref q) s') :
    wpAny (model P w) A (call (.builtin "sorted") [.ref p]) Q E s := by
  obtain ⟨o, es, ep, t, ho, hex, hd, g, nd, hm, hb, hf, hn, hr, hl⟩ := R
  refine Calls.call_function_entry kind_sorted plain_sorted entry_sorted (args_sorted1 _) ?_
  unfold Builtin.«sorted»
  refine wpAny_bind (m := checkCount "sorted" 1 1 _) (wpAny_pure ?_)
  refine wpAny_bind (collect_set (A := A.in1) calm ⟨o, ho, hex.1, hd⟩ hf hb hr hl fun s1 vs k1 hz g1 o1 pm => ?_)
  have hvl : vs.length = n := by rw [pm.length_eq, List.length_map, Array.length_toList]; exact hn
  have hI : StrsAre vs (vs.map strOf) := strsAre_map vs fun v hv => by
    obtain ⟨e, he, q⟩ := List.mem_map.mp (pm.mem_iff.mp hv)
    obtain ⟨k, tk, h1, _⟩ := g e he
    exact ⟨k, tk, by rw [← q]; exact h1⟩
  have pk : (vs.map strOf).Perm (es.toList.map txtOf) := by
    have q := pm.map strOf
    rw [List.map_map] at q
    have e : es.toList.map (strOf ∘ fun x => x.2) = es.toList.map txtOf := List.map_congr_left fun e he => by
      obtain ⟨k, tk, h1, _⟩ := g e he
      show strOf e.2 = txtOf e
      unfold txtOf
      rw [h1]; rfl
    rw [e] at q
    exact q
  refine wpAny_bind (wpAny_newList ?_ (by rw [hvl, sizeLine_eq]; omega))
  have hoL : (s1.heap.push (seqObj "list" vs.toArray 0)).get? s1.heap.objs.size = some (seqObj "list" vs.toArray 0) := Heap.get?_push_size _ rfl
  refine wpAny_bind (wpAny_holding (wpAny_call_entry slot_list_sort ⟨_, hoL, rfl⟩ entry_list_sort (list_sort_treeK strKind_oneLt hoL hI.keysOf (fun v₁ v₂ rest e => keyKind_strs (by rw [← e]; exact hI)) (by rw [hvl]; exact h64) fun st' hp hs => ⟨_, rfl, ?_⟩) (args_list_sort _)))
  obtain ⟨xs, a1, a2, a3⟩ := sorted_out_str hI hp hs
  generalize hout : (arrOf st').map (·.2) = out at a1 ⊢
  obtain ⟨c, hc⟩ := sortedHeap_at (vs := vs) (out := out) hoL
  have pn : xs.Perm (es.toList.map txtOf) := a2.trans pk
  refine wpAny_pure ⟨_, rfl, hQ _ s1.heap.objs.size out c xs (fun b u e => ?_) g1 o1 hz hc a1 (lt_of_sortedS xs a3 (pn.nodup_iff.mpr nd)) (fun k => by rw [pn.mem_iff, ← hm k]) ?_⟩
  · have q := k1 b u e
    have hlt := Heap.lt_size q
    show (sortedHeap (s1.heap.push (seqObj "list" vs.toArray 0)) s1.heap.objs.size vs out).get? b = some u
    rw [sortedHeap_old (Nat.ne_of_lt hlt) (by rw [size_push']; exact Nat.lt_succ_of_lt hlt)]
    exact Heap.get?_push_of_some _ q
  · rw [pn.length_eq, List.length_map, Array.length_toList]; exact hn
end
/-! ### the plain side: a rising list without twins -/
def insU (x : List Nat) : List (List Nat) → List (List Nat)
  | [] => [x]
  | y :: r => if x < y then x :: y :: r else if x = y then y :: r else y :: insU x r
def sortU : List (List Nat) → List (List Nat)
  | [] => []
  | x :: r => insU x (sortU r)
theorem mem_insU (x z : List Nat) : ∀ l, z ∈ insU x l ↔ z = x ∨ z ∈ l
  | [] => by simp [insU]
  | y :: r => by
    unfold insU
    split
    · simp
    · split
      · rename_i e; subst e; simp
      · simp only [List.mem_cons, mem_insU x z r]
        constructor <;> rintro (h | h | h) <;> simp [h]
theorem mem_sortU (z : List Nat) : ∀ l, z ∈ sortU l ↔ z ∈ l
  | [] => by simp [sortU]
  | x :: r => by
    unfold sortU
    rw [mem_insU, mem_sortU z r, List.mem_cons]
theorem insU_sorted (x : List Nat) : ∀ l, l.Pairwise (· < ·) → (insU x l).Pairwise (· < ·)
  | [], _ => by simp [insU]
  | y :: r, h => by
    obtain ⟨h1, h2⟩ := List.pairwise_cons.mp h
    unfold insU
    split
    · rename_i q
      refine List.pairwise_cons.mpr ⟨fun z hz => ?_, h⟩
      rcases List.mem_cons.mp hz with e | e
      · rw [e]; exact q
      · exact List.lt_trans q (h1 z e)
    · split
      · exact h
      · rename_i q1 q2
        refine List.pairwise_cons.mpr ⟨fun z hz => ?_, insU_sorted x r h2⟩
        rcases (mem_insU x z r).mp hz with e | e
        · rw [e]
          rcases Std.lt_trichotomy x y with t | t | t
          · exact absurd t q1
          · exact absurd t q2
          · exact t
        · exact h1 z e
theorem sortU_sorted : ∀ l, (sortU l).Pairwise (· < ·)
  | [] => .nil
  | x :: r => insU_sorted x _ (sortU_sorted r)
theorem sorted_uniq : ∀ (a b : List (List Nat)), a.Pairwise (· < ·) → b.Pairwise (· < ·) → (∀ z, z ∈ a ↔ z ∈ b) → a = b
  | [], [], _, _, _ => rfl
  | [], y :: b, _, _, h => by have := (h y).2 List.mem_cons_self; simp at this
  | x :: a, [], _, _, h => by have := (h x).1 List.mem_cons_self; simp at this
  | x :: a, y :: b, ha, hb, h => by
    obtain ⟨a1, a2⟩ := List.pairwise_cons.mp ha
    obtain ⟨b1, b2⟩ := List.pairwise_cons.mp hb
    have e : x = y := by
      rcases List.mem_cons.mp ((h x).1 List.mem_cons_self) with q | q
      · exact q
      · rcases List.mem_cons.mp ((h y).2 List.mem_cons_self) with q' | q'
        · exact q'.symm
        · exact absurd (List.lt_trans (b1 x q) (a1 y q')) (List.lt_irrefl _)
    subst e
    rw [sorted_uniq a b a2 b2 fun z => ⟨fun q => ?_, fun q => ?_⟩]
    · rcases List.mem_cons.mp ((h z).1 (List.mem_cons_of_mem _ q)) with e | e
      · rw [e] at q; exact absurd (a1 x q) (List.lt_irrefl _)
      · exact e
    · rcases List.mem_cons.mp ((h z).2 (List.mem_cons_of_mem _ q)) with e | e
      · rw [e] at q; exact absurd (b1 x q) (List.lt_irrefl _)
      · exact e
def txs : List D → Option (List (List Nat))
  | [] => some []
  | .str x :: r => (txs r).map fun l => x :: l
  | _ => none
theorem txs_ok {K : PySem.W.Frag} {w : Wd} : ∀ {ds : List D} {vs : List V} {l : List (List Nat)}, txs ds = some l → RVs K w ds vs → vs = (l.map cs).map V.str ∧ ∀ x ∈ l, x.length ≤ sizeLine ∧ x.all (fun c => decide (c < 0x110000)) = true
  | [], vs, l, e, r => by cases e; cases (show vs = [] from r); exact ⟨rfl, fun x h => by simp at h⟩
  | d :: ds, vs, l, e, r => by
    cases d with
    | str x =>
      obtain ⟨l', e1, rfl⟩ := Option.map_eq_some_iff.mp (show (txs ds).map (fun l => x :: l) = some l from e)
      obtain ⟨v, vs', rfl, ⟨rfl, z⟩, rs⟩ := r
      obtain ⟨rfl, z'⟩ := txs_ok e1 rs
      refine ⟨rfl, fun y hy => ?_⟩
      rcases List.mem_cons.mp hy with q | q
      · rw [q]; exact z
      · exact z' y q
    | _ => cases e
theorem RVs.strs {K : PySem.W.Frag} {w : Wd} : ∀ (l : List (List Nat)), (∀ x ∈ l, x.length ≤ sizeLine ∧ x.all (fun c => decide (c < 0x110000)) = true) → RVs K w (l.map D.str) ((l.map cs).map V.str)
  | [], _ => rfl
  | x :: l, h => ⟨_, _, rfl, ⟨rfl, h x List.mem_cons_self⟩, RVs.strs l fun y hy => h y (List.mem_cons_of_mem _ hy)⟩
def setTx (h : Hc) (ds : List D) : Option (List (List Nat)) := match ds with
  | [x] => (seqD h x).bind fun xs => if xs.length < 60 then (txs xs).map sortU else none
  | _ => none
section
variable {X : Cx} {W : WX'} {a : Expr} {mr : L → M (List D)} {p p2 q pos : Pos}
def tSetT (K : PySem.W.Frag) (ta : TA) (k : List Str → Hp → Prop) : L2.St → Hp → Prop := fun σ H => ta σ H fun vs H1 => ∃ l, ∃ xs : List Str, vs = [V.ref l] ∧ (SqT K H1 l (xs.map V.str) ∨ SqL K H1 l (xs.map V.str)) ∧ xs.length < 60 ∧ k xs H1
theorem pe_lenSetT {ta : TA} (hc : X.calm = true) (hg : Gl X "len") (hm : X.mg "len" = none) (hg2 : Gl X "set") (hm2 : X.mg "set" = none) (ha : PA X [a] ta)
    (na : starEach [a] X.env = (false, eval a X.env) :: starEach [] X.env := by rfl) : PE X (.Call (.Name "len" p) [.Call (.Name "set" p2) [a] [] q] [] pos)
    (fun σ H Q => tSetT X.K ta (fun xs H1 => ∀ ys : List Str, ys.Nodup → (∀ y, y ∈ ys ↔ y ∈ xs) → Q (.int ys.length) H1) σ H) := by
  refine ⟨fun pins s σ H Q I h => ?_⟩
  refine Call_ (ld_blt I hg hm boot_len ?_)
  refine PyProof.Rows.callWith_builtin1 (PyProof.Rows.args_cons ?_ rfl) rfl rfl
  refine Call_ (ld_blt I hg2 hm2 PyProof.Rows.boot_set ?_)
  refine PyProof.Rows.callWith_type1 (thn (ha.run q pins s σ H _ I h) fun us s1 ⟨vs, H1, I1, r1, q1⟩ => ?_) na rfl
  obtain ⟨l, xs, rfl, hq, h1, q1⟩ := q1
  rw [Vals.ref1 r1]
  have fin : ∀ (h' : Heap) (tk c : Nat), TSet X.w h' s1.heap.objs.size (fun y => decide (y ∈ xs)) c → (∀ b o, s1.heap.get? b = some o → h'.get? b = some o) →
      wpAny (model X.prog X.w) X.A (spliced (backTo pos (starEach [] X.env))) (fun vs s₂ => wpAny (model X.prog X.w) X.A (call (.builtin "len") (Value.ref s1.heap.objs.size :: vs)) (EP X pins σ Q) X.xe s₂) X.xe { s1 with heap := h', toks := tk } := fun h' tk c hS hk => by
    refine PyProof.Rows.args_nil ?_
    obtain ⟨o, es, ep, t, ho, hex, hd, g, nd, hm3, hb, hf, hn, _⟩ := hS
    have I2 : Inv X pins σ H1 { s1 with heap := h', toks := tk } := I1.kept fun b o e => hk b o e
    have e : (es.toList.map txtOf).length = es.size := by rw [List.length_map, Array.length_toList]
    refine call_len_set ho hex hd hf (by unfold scanBound at hb; omega) ⟨.int (es.toList.map txtOf).length, H1, I2.tok _, ⟨_, by rw [e]⟩, q1 _ nd fun y => ?_⟩
    rw [← hm3 y, decide_eq_true_eq]
  have few : xs.length + 1 < scanBound := by unfold scanBound; omega
  rcases hq with hq | hq
  · obtain ⟨its, r, pl, hz⟩ := I1.tuple hq
    exact call_set_tupleT (I1.ok.hd hc) pl (by simpa using strsAre_of r) few fin
  · obtain ⟨its, r, pl, hz⟩ := I1.list hq
    exact call_set_listT (I1.ok.hd hc) pl.isList (by simpa using strsAre_of r) few fin
theorem vals_strs : ∀ {us : List Value} {ys : List Str}, StrsAre us ys → Vals (ys.map V.str) us
  | _, _, .nil => .nil
  | _, _, .cons y t r => .cons ⟨t, rfl⟩ (vals_strs r)
theorem boot_sorted' : bootBuiltins "sorted" = some (.builtin "sorted") := by decide +kernel
theorem nodup_len {α : Type} [DecidableEq α] : ∀ (a b : List α), a.Nodup → (∀ x, x ∈ a → x ∈ b) → a.length ≤ b.length
  | [], _, _, _ => by simp
  | x :: a, b, nd, h => by
    obtain ⟨n1, n2⟩ := List.nodup_cons.mp nd
    have hx := h x List.mem_cons_self
    have := nodup_len a (b.erase x) n2 fun y hy => (List.mem_erase_of_ne (a := y) (b := x) (fun e => n1 (by rw [← e]; exact hy))).mpr (h y (List.mem_cons_of_mem _ hy))
    rw [List.length_erase_of_mem hx] at this
    have : 0 < b.length := List.length_pos_of_mem hx
    simp only [List.length_cons]
    omega
theorem pe_sortedSetT {ta : TA} (hc : X.calm = true) (hg : Gl X "sorted") (hm : X.mg "sorted" = none) (hg2 : Gl X "set") (hm2 : X.mg "set" = none) (ha : PA X [a] ta)
    (na : starEach [a] X.env = (false, eval a X.env) :: starEach [] X.env := by rfl) : PE X (.Call (.Name "sorted" p) [.Call (.Name "set" p2) [a] [] q] [] pos)
    (fun σ H Q => tSetT X.K ta (fun xs H1 => ∀ (ys : List Str) (b : Addr), ys.Pairwise (fun a b => a.cps.toList < b.cps.toList) → (∀ y, y ∈ ys ↔ y ∈ xs) → H1 b = none → Q (.ref b) (upd H1 b (.lst (ys.map V.str)))) σ H) := by
  refine ⟨fun pins s σ H Q I h => ?_⟩
  refine Call_ (ld_blt I hg hm boot_sorted' ?_)
  refine PyProof.Rows.callWith_builtin1 (PyProof.Rows.args_cons ?_ rfl) rfl rfl
  refine Call_ (ld_blt I hg2 hm2 PyProof.Rows.boot_set ?_)
  refine PyProof.Rows.callWith_type1 (thn (ha.run q pins s σ H _ I h) fun us s1 ⟨vs, H1, I1, r1, q1⟩ => ?_) na rfl
  obtain ⟨l, xs, rfl, hq, h1, q1⟩ := q1
  rw [Vals.ref1 r1]
  have fin : ∀ (h' : Heap) (tk c : Nat), TSet X.w h' s1.heap.objs.size (fun y => decide (y ∈ xs)) c → (∀ b o, s1.heap.get? b = some o → h'.get? b = some o) →
      wpAny (model X.prog X.w) X.A (spliced (backTo pos (starEach [] X.env))) (fun vs s₂ => wpAny (model X.prog X.w) X.A (call (.builtin "sorted") (Value.ref s1.heap.objs.size :: vs)) (EP X pins σ Q) X.xe s₂) X.xe { s1 with heap := h', toks := tk } := fun h' tk c hS hk => by
    refine PyProof.Rows.args_nil ?_
    have I2 : Inv X pins σ H1 { s1 with heap := h', toks := tk } := I1.kept fun b o e => hk b o e
    have c64 : c < 64 := by
      obtain ⟨o, es, ep, t, ho, hex, hd, g, nd, hm3, hb, hf, hn, _⟩ := hS
      have := nodup_len _ xs nd fun y hy => by have := (hm3 y).2 hy; simpa using this
      rw [List.length_map, Array.length_toList, hn] at this
      omega
    refine sorted_tset (s := { s1 with heap := h', toks := tk }) hS (I2.ok.hd hc) c64 fun s' b out cc ys k g o hp hg hi hs hm4 hl => ?_
    have hlen : (ys.map V.str).length ≤ sizeLine := by rw [List.length_map, hl, sizeLine_eq]; omega
    have hn : H1 b = none := I2.hok.fresh hp
    have J := I2.call' (s' := s') (ch := []) (H' := upd H1 b (.lst (ys.map V.str))) o (Un.laid k hp hn) (I2.hok.laid k hp ⟨hlen, out.toList, cc, vals_strs hi, hg⟩) (by rw [g]; exact I2.bare) (fun _ z => nomatch z)
    exact ⟨.ref b, _, J, rfl, q1 ys b hs (fun y => by rw [hm4 y, decide_eq_true_eq]) hn⟩
  have few : xs.length + 1 < scanBound := by unfold scanBound; omega
  rcases hq with hq | hq
  · obtain ⟨its, r, pl, hz⟩ := I1.tuple hq
    exact call_set_tupleT (I1.ok.hd hc) pl (by simpa using strsAre_of r) few fin
  · obtain ⟨its, r, pl, hz⟩ := I1.list hq
    exact call_set_listT (I1.ok.hd hc) pl.isList (by simpa using strsAre_of r) few fin
def lenSetV (mr : L → M (List D)) : L → M D := fun l => (mr l).bind fun ds => rdo fun h => (setTx h ds).map fun xs => .int (xs.length : Nat)
def sortedSetV (mr : L → M (List D)) : L → M D := fun l => (mr l).bind fun ds => rdo fun h => (setTx h ds).map fun xs => .lst (xs.map D.str)
theorem setTx_ok {w : Wd} {h : Hc} {H : Hp} {ds : List D} {vs : List V} {zs : List (List Nat)} (s : Sim X.K w h H) (r : RVs X.K w ds vs) (e : setTx h ds = some zs) :
    ∃ b xs, vs = [V.ref b] ∧ (SqT X.K H b ((xs.map cs).map V.str) ∨ SqL X.K H b ((xs.map cs).map V.str)) ∧ xs.length < 60 ∧ zs = sortU xs ∧ ∀ x ∈ xs, x.length ≤ sizeLine ∧ x.all (fun c => decide (c < 0x110000)) = true := by
  unfold setTx at e
  split at e
  · obtain ⟨xs, e1, e2⟩ := Option.bind_eq_some_iff.mp e
    split at e2
    · rename_i x hl
      obtain ⟨l, e3, rfl⟩ := Option.map_eq_some_iff.mp e2
      obtain ⟨v, rfl, r1⟩ := r.one
      obtain ⟨b, us, rfl, q, z, rv⟩ := seqD_ok s r1 e1
      have ll := rv.length
      obtain ⟨rfl, z'⟩ := txs_ok e3 rv
      refine ⟨b, l, rfl, q, ?_, rfl, z'⟩
      simp at ll
      omega
    · cases e2
  · cases e
theorem mem_cs {l : List (List Nat)} {y : Str} : y ∈ l.map cs ↔ y.cps.toList ∈ l := by
  simp only [List.mem_map]
  exact ⟨fun ⟨x, hx, e⟩ => by rw [← e, cs_cps]; exact hx, fun h => ⟨_, h, cs_of y⟩⟩
theorem nodup_cps {ys : List Str} (h : ys.Nodup) : (ys.map fun y => y.cps.toList).Nodup := by
  refine List.pairwise_map.mpr (List.Pairwise.imp (fun {a b} ne e => ne ?_) h)
  rw [← cs_of a, ← cs_of b, show a.cps.toList = b.cps.toList from e]
theorem me_lenSet (hc : X.calm = true) (hg : Gl X "len") (hg2 : Gl X "set") (hm : X.mg "len" = none) (hm2 : X.mg "set" = none) (ha : MA X W [a] mr)
    (na : starEach [a] X.env = (false, eval a X.env) :: starEach [] X.env := by rfl) : ME X W (.Call (.Name "len" p) [.Call (.Name "set" p2) [a] [] q] [] pos) (lenSetV mr) :=
  PE.weak (pe_lenSetT hc hg hm hg2 hm2 ha na) fun σ H Q ⟨w, l, h, s, sl, r⟩ => by
    refine tG_mono (fun vs H1 ⟨w1, ds, h1, l1, s1, k1, rv, r1⟩ => ?_) (tG_bind s sl r)
    obtain ⟨d, e, k⟩ := r1.rdo
    obtain ⟨zs, e1, rfl⟩ := Option.map_eq_some_iff.mp e
    obtain ⟨b, xs, rfl, q, few, rfl, _⟩ := setTx_ok s1 rv e1
    refine ⟨b, xs.map cs, rfl, q, by simpa using few, fun ys nd hy => ?_⟩
    have e2 : ys.length = (sortU xs).length := by
      apply Nat.le_antisymm
      · have := nodup_len (ys.map fun y => y.cps.toList) (sortU xs) (nodup_cps nd) fun x hx => by
          obtain ⟨y, h1, rfl⟩ := List.mem_map.mp hx
          rw [mem_sortU]
          exact mem_cs.mp ((hy y).1 h1)
        simpa using this
      · have nd2 : (sortU xs).Nodup := (sortU_sorted xs).imp fun {a b} h e => by rw [e] at h; exact List.lt_irrefl _ h
        have := nodup_len (sortU xs) (ys.map fun y => y.cps.toList) nd2 fun x hx => by
          refine List.mem_map.mpr ⟨cs x, (hy _).2 ?_, cs_cps x⟩
          rw [mem_cs, cs_cps]
          exact (mem_sortU x xs).1 hx
        simpa using this
    rw [e2]
    exact k w1 H1 _ w1.le_refl s1 (Keep.refl _ _ _) rfl
theorem me_sortedSet (hc : X.calm = true) (hg : Gl X "sorted") (hg2 : Gl X "set") (hm : X.mg "sorted" = none) (hm2 : X.mg "set" = none) (ha : MA X W [a] mr)
    (na : starEach [a] X.env = (false, eval a X.env) :: starEach [] X.env := by rfl) : ME X W (.Call (.Name "sorted" p) [.Call (.Name "set" p2) [a] [] q] [] pos) (sortedSetV mr) :=
  PE.weak (pe_sortedSetT hc hg hm hg2 hm2 ha na) fun σ H Q ⟨w, l, h, s, sl, r⟩ => by
    refine tG_mono (fun vs H1 ⟨w1, ds, h1, l1, s1, k1, rv, r1⟩ => ?_) (tG_bind s sl r)
    obtain ⟨d, e, k⟩ := r1.rdo
    obtain ⟨zs, e1, rfl⟩ := Option.map_eq_some_iff.mp e
    obtain ⟨b, xs, rfl, q, few, rfl, ok⟩ := setTx_ok s1 rv e1
    refine ⟨b, xs.map cs, rfl, q, by simpa using few, fun ys b2 pw hy hn => ?_⟩
    have e2 : ys.map (fun y => y.cps.toList) = sortU xs := sorted_uniq _ _ (List.pairwise_map.mpr pw) (sortU_sorted xs) fun z => by
      rw [mem_sortU]
      constructor
      · intro hz
        obtain ⟨y, h1, rfl⟩ := List.mem_map.mp hz
        exact mem_cs.mp ((hy y).1 h1)
      · intro hz
        refine List.mem_map.mpr ⟨cs z, (hy _).2 ?_, cs_cps z⟩
        rw [mem_cs, cs_cps]; exact hz
    have e3 : ys = (sortU xs).map cs := by
      rw [← e2, List.map_map]
      have : (cs ∘ fun y : Str => y.cps.toList) = id := by funext y; exact cs_of y
      rw [this, List.map_id]
    have sz : (sortU xs).length < 60 := by
      have nd2 : (sortU xs).Nodup := (sortU_sorted xs).imp fun {a b} h e => by rw [e] at h; exact List.lt_irrefl _ h
      have := nodup_len (sortU xs) xs nd2 fun x hx => (mem_sortU x xs).1 hx
      omega
    rw [e3]
    exact new_lst s1 (by rw [List.length_map, sizeLine_eq]; omega) (RVs.strs _ fun x hx => ok x ((mem_sortU x xs).1 hx)) k hn
end
end Mz

namespace Mz
open PySem L2
/-- the law's own def: the promise itself -/
theorem fnok_make {P : Program} {w : World} {K : PySem.W.Frag} {mg : Str → Option Value} {base : Heap} {x qual : Str} {st : Stmt} {f : Addr} {fd : FuncData} {N ps : List Str} {k n nn : Nat} {m : S} (F : Fun K x qual st f fd) (Sc : FnScope N ps (defScope st))
    (hn : ps.length = n) (hnn : N.length = nn)
    (hbody : ∀ (cdv : Value) (A : Around) (outer : List Env) (s : Shared) (H : Hp) (E : XK), Room k (A.deeper (PyProof.Rows.envOfC qual (defScope st) s.heap.objs.size f cdv)) →
      MSs (cxOf CX0 P w K mg base N qual (defScope st) f cdv A outer s H E).nox W0 (defBody st) m) : FnOk P w K mg base CX0 (k + 1) f fd ps (spM0 K n (bodyM n nn m)) := by
  subst hn hnn
  refine F.ok Sc (fun vs H Q E ⟨w, h, ds, e, s, r, _⟩ => by rw [r.length, e]) fun cdv A outer s H vs Q E hr ⟨w1, h, ds, e, si, r, q⟩ => ?_
  refine ⟨_, hbody cdv A outer s H E hr, w1, ds.map some ++ List.replicate (N.length - ds.length) none, h, si, SimL.start r N, ?_⟩
  unfold bodyM at q
  rw [if_pos e, ← e] at q
  show ResS K mg w1 h H W0 _ _
  cases eb : m (ds.map some ++ List.replicate (N.length - ds.length) none) h with
  | bad => simp only [eb] at q
  | exc c d l h' => simp only [eb] at q
  | ok fl h' =>
    cases fl with
    | nx l => simp only [eb] at q; exact fun w' H' σ' l2 s2 k2 _ => q w' H' .non l2 s2 k2 rfl
    | rt d => simp only [eb] at q; exact q
    | bk l => simp only [eb] at q
    | ct l => simp only [eb] at q
theorem RVs.ints {K : PySem.W.Frag} {w : Wd} : ∀ ns : List Int, RVs K w (ns.map D.int) (ns.map V.int)
  | [] => rfl
  | n :: ns => ⟨.int n, ns.map V.int, rfl, rfl, RVs.ints ns⟩
/-- a script that the mirror answers True -/
theorem sp_of {K : PySem.W.Frag} {m : List D → M D} {H : Hp} {a : Addr} {ns : List Int} {n : Nat} (hn : n ≤ 1000) (hl : ns.length ≤ n) (q : SqL K H a (ns.map V.int)) (e : ∃ h', m [.arg (ns.map D.int)] [] = .ok (.bl true) h') : spM0 K 1 m [.ref a] H (fun v _ => v = .bl true) fun _ _ _ => False := by
  obtain ⟨h', e⟩ := e
  refine ⟨⟨[], H⟩, [], [.arg (ns.map D.int)], rfl, ⟨rfl, fun a o z => z, fun i o a z => by simp at z, fun i o a z => by simp at z, fun i j o o' a z => by simp at z⟩, ⟨.ref a, [], rfl, ⟨a, ns.map V.int, rfl, q, ?_, RVs.ints ns⟩, rfl⟩, ?_⟩
  · rw [List.length_map, sizeLine_eq]; omega
  · rw [e]
    exact fun w' H' v l s k r => r
/-- a tuple of texts written by the top -/
theorem Const.tupS {K : PySem.W.Frag} {mg : Str → Option Value} {x : Str} {a : Addr} {dd : Option Addr} {sl : Array (Option Value)} {its : Array Value} {n : Nat} (l : List (List Nat)) (hm : mg x = some (.ref a)) (hl : K.lookup a = some ⟨.type "tuple", dd, .seq its n, sl⟩)
    (e : Vals ((l.map cs).map V.str) its.toList) (hc : l.all (fun c => decide (c.length ≤ 1000) && c.all fun c => decide (c < 0x110000)) = true) (hs : l.length ≤ 1000) : Const K mg x (.tup (l.map D.str)) := by
  have e2 := e.length
  simp only [List.length_map, Array.length_toList] at e2
  refine ⟨_, .ref a, hm, rfl, fun w => ⟨a, (l.map cs).map V.str, rfl, .inr ⟨_, its, n, hl, rfl, rfl, by rw [← e2, sizeLine_eq]; omega, e⟩, by rw [List.length_map, sizeLine_eq]; omega, RVs.strs l fun x hx => ?_⟩⟩
  have := List.all_eq_true.mp hc x hx
  simp only [Bool.and_eq_true, decide_eq_true_eq] at this
  exact ⟨Nat.le_trans this.1 (by rw [sizeLine_eq]; decide), this.2⟩
end Mz

/-! texts: join, split, f-strings -/
namespace Mz
open PySem L2
section
variable {X : Cx} {W : WX'} {o e : Expr} {mo me : L → M D} {pos apos : Pos}
def asS (d : D) : Option (List Nat) := match d with
  | .str x => some x
  | _ => none
theorem asS_some {d : D} {x : List Nat} (k : asS d = some x) : d = .str x := by
  cases d <;> first | (cases k; rfl) | cases k
/-- a method of a text with one argument -/
def strMV (g : Hc → List Nat → D → Option D) (mo me : L → M D) : L → M D := fun l => (mo l).bind fun x => (rdo fun _ => asS x).bind fun a => (me l).bind fun y => rdo fun h => g h a y
def cpOk (x : List Nat) : Bool := x.all fun c => decide (c < 0x110000)
theorem strM_read {g : Hc → List Nat → D → Option D} {r : V → List V → Hp → VK → Prop} {σ : St} {H : Hp} {Q : VK}
    (k : ∀ (w : Wd) (h : Hc) (H : Hp) (a : List Nat) (y : D) (v : V) (d : D), g h a y = some d → Sim X.K w h H → a.length ≤ sizeLine → cpOk a = true → RV X.K w y v → (∀ w' H' z, w.le w' → Sim X.K w' h H' → Keep w h H w' h H' → RV X.K w' d z → Q z H') → r (.str (cs a)) [v] H Q)
    (t : tG X.K X.mg W (RV X.K) (strMV g mo me) σ H Q) : tM1 r (tG X.K X.mg W (RV X.K) mo) (tG X.K X.mg W (RV X.K) me) σ H Q := by
  obtain ⟨w, l, h, s, sl, rr⟩ := t
  refine tG_mono (fun x H1 ⟨w1, dx, h1, l1, s1, k1, rx, r1⟩ => ?_) (tG_bind s sl rr)
  obtain ⟨a, ea, r1'⟩ := r1.rdo_bind
  obtain rfl := asS_some ea
  obtain ⟨rfl, za, ca⟩ := rx
  refine ⟨⟨_, rfl⟩, ?_⟩
  refine tG_mono (fun y H2 ⟨w2, dy, h2, l2, s2, k2, ry, r2⟩ => ?_) (tG_bind (f := fun y => rdo fun h => g h a y) s1 (sl.le l1) r1')
  obtain ⟨d, ed, kk⟩ := r2.rdo
  exact k w2 h2 H2 a dy y d ed s2 za ca ry kk
/-! ### join -/
def joinD (h : Hc) (a : List Nat) (y : D) : Option D := (seqD h y).bind fun ys => (txs ys).bind fun zs => if (zs.map (·.length)).sum + zs.length * a.length ≤ 16777216 then some (.str (TL.joinL a zs)) else none
theorem joinL_len (a : List Nat) : ∀ zs : List (List Nat), (TL.joinL a zs).length ≤ (zs.map (·.length)).sum + zs.length * a.length
  | [] => by simp [TL.joinL]
  | [p] => by simp [TL.joinL]
  | p :: q :: r => by
    have := joinL_len a (q :: r)
    unfold TL.joinL
    simp only [List.length_append, List.map_cons, List.sum_cons, List.length_cons, Nat.succ_mul] at this ⊢
    omega
theorem joinL_ok {a : List Nat} (ca : cpOk a = true) : ∀ zs : List (List Nat), (∀ x ∈ zs, cpOk x = true) → cpOk (TL.joinL a zs) = true
  | [], _ => rfl
  | [p], k => k p (by simp)
  | p :: q :: r, k => by
    have i := joinL_ok ca (q :: r) fun x hx => k x (List.mem_cons_of_mem _ hx)
    unfold TL.joinL
    unfold cpOk at ca i ⊢
    rw [List.all_append, List.all_append, ca, i]
    have := k p (by simp)
    unfold cpOk at this
    rw [this]; rfl
theorem me_join (ho : ME X W o mo) (he : ME X W e me) (hs : starEach [e] X.env = [(false, eval e X.env)] := by rfl) (hbase : attributeBase o "join" X.env (eval o X.env) = eval o X.env := by rfl) (hline : (apos.endLine == pos.line) = true := by rfl) :
    ME X W (.Call (.Attribute o "join" apos) [e] [] pos) (strMV joinD mo me) :=
  PE.weak (pe_join ho he hs hbase hline) fun σ H Q t => strM_read (fun w h H a y v d ed s za ca ry kk => by
    unfold joinD at ed
    obtain ⟨ys, e1, e2⟩ := Option.bind_eq_some_iff.mp ed
    obtain ⟨zs, e3, e4⟩ := Option.bind_eq_some_iff.mp e2
    split at e4
    · rename_i z
      cases e4
      obtain ⟨p, us, rfl, q, _, rv⟩ := seqD_ok s ry e1
      obtain ⟨rfl, zk⟩ := txs_ok e3 rv
      refine ⟨cs a, p, zs.map cs, rfl, rfl, q.symm, ?_, ?_⟩
      · have e5 : (zs.map cs).map (·.length) = zs.map (·.length) := by
          rw [List.map_map]; exact List.map_congr_left fun x _ => cs_length x
        rw [e5, List.length_map, cs_length]; exact z
      · have := SX.join_S a zs
        show Q (.str (Txt.join (SX.S a) (zs.map SX.S))) H
        rw [this]
        refine kk w H _ w.le_refl s (Keep.refl _ _ _) ⟨rfl, ?_, joinL_ok ca zs fun x hx => (zk x hx).2⟩
        have := joinL_len a zs
        rw [sizeLine_eq]; omega
    · cases e4) t
/-! ### split -/
def splitD (_ : Hc) (a : List Nat) (y : D) : Option D := match y with
  | .str b => if b.length ≠ 0 ∧ b.all (· < 256) = true ∧ a.length + 2 ≤ sizeLine then some (.lst ((TL.spl b 0 [] a).map D.str)) else none
  | _ => none
theorem spl_parts (b : List Nat) : ∀ (a : List Nat) (k : Nat) (acc : List Nat), (TL.spl b k acc a).length ≤ a.length + 1 ∧ ∀ p ∈ TL.spl b k acc a, p.length ≤ acc.length + a.length ∧ ∀ c ∈ p, c ∈ acc ∨ c ∈ a
  | [], k, acc => by
    have e : TL.spl b k acc [] = [acc] := by cases k <;> rfl
    rw [e]
    exact ⟨by simp, fun p hp => by rw [List.mem_singleton.mp hp]; exact ⟨by simp, fun c hc => .inl hc⟩⟩
  | c :: r, 0, acc => by
    unfold TL.spl
    split
    · obtain ⟨i1, i2⟩ := spl_parts b r (b.length - 1) []
      refine ⟨by simp; omega, fun p hp => ?_⟩
      rcases List.mem_cons.mp hp with e | e
      · rw [e]; exact ⟨by omega, fun c hc => .inl hc⟩
      · obtain ⟨j1, j2⟩ := i2 p e
        refine ⟨by simp at j1 ⊢; omega, fun c hc => ?_⟩
        rcases j2 c hc with z | z
        · simp at z
        · exact .inr (List.mem_cons_of_mem _ z)
    · obtain ⟨i1, i2⟩ := spl_parts b r 0 (acc ++ [c])
      refine ⟨by simp; omega, fun p hp => ?_⟩
      obtain ⟨j1, j2⟩ := i2 p hp
      refine ⟨by simp at j1 ⊢; omega, fun d hd => ?_⟩
      rcases j2 d hd with z | z
      · rcases List.mem_append.mp z with z | z
        · exact .inl z
        · rw [List.mem_singleton.mp z]; exact .inr List.mem_cons_self
      · exact .inr (List.mem_cons_of_mem _ z)
  | c :: r, k + 1, acc => by
    have e : TL.spl b (k + 1) acc (c :: r) = TL.spl b k acc r := rfl
    rw [e]
    obtain ⟨i1, i2⟩ := spl_parts b r k acc
    refine ⟨by simp; omega, fun p hp => ?_⟩
    obtain ⟨j1, j2⟩ := i2 p hp
    exact ⟨by simp; omega, fun d hd => (j2 d hd).imp id fun z => List.mem_cons_of_mem _ z⟩
theorem me_split (ho : ME X W o mo) (he : ME X W e me) (hs : starEach [e] X.env = [(false, eval e X.env)] := by rfl) (hbase : attributeBase o "split" X.env (eval o X.env) = eval o X.env := by rfl) (hline : (apos.endLine == pos.line) = true := by rfl) :
    ME X W (.Call (.Attribute o "split" apos) [e] [] pos) (strMV splitD mo me) :=
  PE.weak (pe_split ho he hs hbase hline) fun σ H Q t => strM_read (fun w h H a y v d ed s za ca ry kk => by
    unfold splitD at ed
    split at ed
    · rename_i b
      split at ed
      · rename_i z
        cases ed
        obtain ⟨rfl, zb, cb⟩ := ry
        refine ⟨cs a, cs b, rfl, rfl, by rw [cs_length]; simpa using z.1, by rw [cs_length]; exact z.2.2, fun p hp => ?_⟩
        have e1 : Txt.split (cs a) (cs b) = (TL.spl b 0 [] a).map cs := SX.split_S (by intro q; rw [q] at z; simp at z) z.2.1
        rw [e1]
        obtain ⟨i1, i2⟩ := spl_parts b a 0 []
        refine new_lst s (by rw [List.length_map]; omega) (RVs.strs _ fun x hx => ?_) kk hp
        obtain ⟨j1, j2⟩ := i2 x hx
        refine ⟨by simp at j1; omega, List.all_eq_true.mpr fun c hc => ?_⟩
        rcases j2 c hc with q | q
        · simp at q
        · exact List.all_eq_true.mp ca c q
      · cases ed
    · cases ed) t
/-! ### f-strings -/
def fsGo : List (L → M D) → List Nat → L → M D
  | [], acc, _ => fun h => .ok (.str acc) h
  | m :: ms, acc, l => (m l).bind fun x => (rdo fun _ => (asS x).bind fun y => if acc.length + y.length ≤ sizeLine then some y else none).bind fun y => fsGo ms (acc ++ y) l
theorem fs_read : ∀ (ms : List (L → M D)) (acc : List Nat) (σ : St) (H : Hp) (Q : VK), acc.length ≤ sizeLine → cpOk acc = true → tG X.K X.mg W (RV X.K) (fsGo ms acc) σ H Q →
    tJs (ms.map fun m => tG X.K X.mg W (RV X.K) m) (cs acc) σ H fun out H1 => Q (.str out) H1
  | [], acc, σ, H, Q, z, ca, t => by
    obtain ⟨w, l, h, s, sl, r⟩ := t
    exact Res.stay (v := V.str (cs acc)) r s ⟨rfl, z, ca⟩
  | m :: ms, acc, σ, H, Q, z, ca, t => by
    obtain ⟨w, l, h, s, sl, r⟩ := t
    refine tG_mono (fun x H1 ⟨w1, dx, h1, l1, s1, k1, rx, r1⟩ => ?_) (tG_bind s sl r)
    obtain ⟨y, ey, r1'⟩ := r1.rdo_bind
    obtain ⟨y', e1, e2⟩ := Option.bind_eq_some_iff.mp ey
    obtain rfl := asS_some e1
    split at e2
    · rename_i zz
      cases e2
      obtain ⟨rfl, zy, cy⟩ := rx
      have ec : cs acc ++ cs y = cs (acc ++ y) := SX.S_cat acc y
      refine ⟨cs y, rfl, by rw [ec, cs_length]; simpa using zz, ?_⟩
      rw [ec]
      refine fs_read ms (acc ++ y) σ H1 Q (by simpa using zz) (by unfold cpOk at ca ⊢; rw [List.all_append, ca]; exact cy) ⟨w1, l, h1, s1, sl.le l1, r1'⟩
    · cases e2
def fsV (ms : List (L → M D)) : L → M D := fsGo ms []
def MJ (X : Cx) (W : WX') (es : List Expr) (ms : List (L → M D)) : Prop := PJ X es (ms.map fun m => tG X.K X.mg W (RV X.K) m)
theorem mj_nil : MJ X W [] [] := .nil
theorem mj_cons {es : List Expr} {ms : List (L → M D)} {m : L → M D} (h : ME X W e m) (r : MJ X W es ms) : MJ X W (e :: es) (m :: ms) := .cons h r
theorem me_fstr {e1 e2 : Expr} {rest : List Expr} {ms : List (L → M D)} (h : MJ X W (e1 :: e2 :: rest) ms) : ME X W (.JoinedStr (e1 :: e2 :: rest) pos) (fsV ms) :=
  PE.weak (pe_joined h) fun σ H Q t => fs_read ms [] σ H Q (Nat.zero_le _) rfl t
/-- {x}: a text, or a figure -/
def fmtV (m : L → M D) : L → M D := fun l => (m l).bind fun x => rdo fun _ => match x with
  | .str y => some (.str y)
  | .int i => if 0 ≤ i ∧ i ≤ 9 then some (.str [48 + i.toNat]) else none
  | _ => none
theorem fig_text {i : Int} (h : 0 ≤ i ∧ i ≤ 9) : ((toString i : String) : Str) = cs [48 + i.toNat] ∧ i.natAbs.log2 < 1920 := by
  have : i = 0 ∨ i = 1 ∨ i = 2 ∨ i = 3 ∨ i = 4 ∨ i = 5 ∨ i = 6 ∨ i = 7 ∨ i = 8 ∨ i = 9 := by omega
  rcases this with rfl | rfl | rfl | rfl | rfl | rfl | rfl | rfl | rfl | rfl <;> exact ⟨by decide +kernel, by decide +kernel⟩
theorem me_fmt (he : ME X W e me) : ME X W (.FormattedValue e (-1) none pos) (fmtV me) :=
  PE.weak (pe_fmt he) fun σ H Q ⟨w, l, h, s, sl, r⟩ => by
    refine tG_mono (fun x H1 ⟨w1, dx, h1, l1, s1, k1, rx, r1⟩ => ?_) (tG_bind s sl r)
    obtain ⟨d, ed, k⟩ := r1.rdo
    cases dx with
    | str y =>
      cases ed
      obtain ⟨rfl, zy, cy⟩ := rx
      exact .inl ⟨cs y, rfl, by rw [cs_length]; exact zy, k w1 H1 _ w1.le_refl s1 (Keep.refl _ _ _) ⟨rfl, zy, cy⟩⟩
    | int i =>
      cases (show x = _ from rx)
      have ed : (if 0 ≤ i ∧ i ≤ 9 then some (D.str [48 + i.toNat]) else none) = some d := ed
      split at ed
      · rename_i hi
        cases ed
        obtain ⟨e1, e2⟩ := fig_text hi
        refine .inr ⟨i, rfl, e2, ?_⟩
        have q := k w1 H1 (.str (cs [48 + i.toNat])) w1.le_refl s1 (Keep.refl _ _ _) ⟨rfl, by show 1 ≤ sizeLine; decide, by simp; omega⟩
        rw [← e1] at q
        exact q
      · cases ed
    | _ => cases ed
end
end Mz

/-! defs that may raise, and their calls -/
namespace Mz
open PySem L2
def spM1 (K : PySem.W.Frag) (mg : Str → Option Value) (n : Nat) (m : List D → M D) : Sp := fun vs H Q E => ∃ w h ds, ds.length = n ∧ Sim K w h H ∧ RVs K w ds vs ∧ match m ds h with
  | .ok d h' => ∀ w' H' v, w.le w' → Sim K w' h' H' → Keep w h H w' h' H' → RV K w' d v → Q v H'
  | .exc c d h' => ∀ w' H' cls dd, w.le w' → Sim K w' h' H' → Keep w h H w' h' H' → XV K mg w' H' c d cls dd → E cls dd H'
  | .bad => False
structure Fn1 (P : Program) (w : World) (K : PySem.W.Frag) (mg : Str → Option Value) (base : Heap) (k : Nat) (x : Str) (m : List D → M D) : Prop where
  ex : ∃ f fd ps n, FnOk P w K mg base (L2.CX P w) k f fd ps (spM1 K mg n m) ∧ mg x = some (.ref f) ∧ PySem.W.keepIn K (.ref f) = true ∧ Binds K fd ps [] ∧ ∀ ds h, ds.length ≠ n → m ds h = .bad
theorem Fn1.make {P : Program} {w : World} {K : PySem.W.Frag} {mg : Str → Option Value} {base : Heap} {x qual : Str} {st : Stmt} {f : Addr} {fd : FuncData} {N ps : List Str} {k n nn : Nat} {m : S} (F : Fun K x qual st f fd) (hm : mg x = some (.ref f)) (Sc : FnScope N ps (defScope st)) (b : Binds K fd ps [])
    (hn : ps.length = n) (hnn : N.length = nn)
    (hbody : ∀ (cdv : Value) (A : Around) (outer : List Env) (s : Shared) (H : Hp) (E : XK), Room k (A.deeper (PyProof.Rows.envOfC qual (defScope st) s.heap.objs.size f cdv)) →
      MSs (cxOf (L2.CX P w) P w K mg base N qual (defScope st) f cdv A outer s H E) (fun cls d _ H => E cls d H) (defBody st) m) : Fn1 P w K mg base (k + 1) x (bodyM n nn m) := by
  subst hn hnn
  refine ⟨f, fd, ps, ps.length, ?_, hm, F.kp, b, fun ds h e => by unfold bodyM; rw [if_neg e]⟩
  refine F.okX Sc (fun vs H Q E ⟨w, h, ds, e, s, r, _⟩ => by rw [r.length, e]) fun cdv A outer s H vs Q E hr ⟨w1, h, ds, e, si, r, q⟩ => ?_
  refine ⟨_, hbody cdv A outer s H E hr, w1, ds.map some ++ List.replicate (N.length - ds.length) none, h, si, SimL.start r N, ?_⟩
  unfold bodyM at q
  rw [if_pos e, ← e] at q
  show ResS K mg w1 h H _ _ _
  cases eb : m (ds.map some ++ List.replicate (N.length - ds.length) none) h with
  | bad => simp only [eb] at q
  | exc c d l h' => simp only [eb] at q; exact fun w' H' σ' cls dd l2 s2 k2 _ x => q w' H' cls dd l2 s2 k2 x
  | ok fl h' =>
    cases fl with
    | nx l => simp only [eb] at q; exact fun w' H' σ' l2 s2 k2 _ => q w' H' .non l2 s2 k2 rfl
    | rt d => simp only [eb] at q; exact q
    | bk l => simp only [eb] at q
    | ct l => simp only [eb] at q
section
variable {X : Cx} {W : WX'} {a : Expr} {es : List Expr} {mr : L → M (List D)} {pos : Pos}
def callX (m : List D → M D) (mr : L → M (List D)) : L → M D := fun l => (mr l).bind fun ds => m ds
theorem me_callX {k : Nat} {x : Str} {p : Pos} {f : List D → M D} (F : Fn1 X.prog X.w X.K X.mg X.base k x f) (tk : Takes X W) (hr : Room k X.A) (hg : Gl X x) (ha : MA X W (a :: es) mr) (hdb : (x == ("__debug__" : Str)) = false := by decide)
    (he : starEach (a :: es) X.env = (false, eval a X.env) :: starEach es X.env := by rfl) (hpl : (backTo pos (starEach es X.env)).any (·.1) = false := by rfl) : ME X W (.Call (.Name x p) (a :: es) [] pos) (callX f mr) := by
  obtain ⟨fa, fd, ps, n, F, hm, hk, hb, hl⟩ := F.ex
  refine PE.weak (pe_callS (E := WE W) F hr hg hm hk hb (fun σ => passAt tk σ) ha hdb he hpl) fun σ H Q ⟨w, l, h, s, sl, r⟩ => ?_
  refine tG_mono (fun vs H1 ⟨w1, ds, h1, l1, s1, k1, rv, r1⟩ => ?_) (tG_bind s sl r)
  have en : f ds h1 ≠ .bad → ds.length = n := fun z => by
    by_cases q : ds.length = n
    · exact q
    · exact absurd (hl ds h1 q) z
  cases ef : f ds h1 with
  | bad => rw [ef] at r1; exact r1.elim
  | exc c d h' =>
    rw [ef] at r1
    exact ⟨w1, h1, ds, en (by rw [ef]; intro z; cases z), s1, rv, by simp only [ef]; exact r1⟩
  | ok d h' =>
    rw [ef] at r1
    exact ⟨w1, h1, ds, en (by rw [ef]; intro z; cases z), s1, rv, by simp only [ef]; exact r1⟩
end
end Mz

namespace Mz
open PySem L2
section
variable {X : Cx} {W : WX'} {o e : Expr} {mo me : L → M D} {pos apos : Pos}
def isNon : D → Bool
  | .non => true
  | _ => false
theorem isNon_ok {K : PySem.W.Frag} {w : Wd} {d : D} {v : V} (r : RV K w d v) : decide (v = V.non) = isNon d := by
  cases d with
  | non => cases (show v = _ from r); rfl
  | bl _ => cases (show v = _ from r); rfl
  | int _ => cases (show v = _ from r); rfl
  | str _ => obtain ⟨rfl, _⟩ := r; rfl
  | tup _ => obtain ⟨a, vs, rfl, _⟩ := r; rfl
  | lst _ => obtain ⟨a, vs, rfl, _⟩ := r; rfl
  | arg _ => obtain ⟨a, vs, rfl, _⟩ := r; rfl
  | ref _ => obtain ⟨a, rfl, _⟩ := r; rfl
  | ty _ => cases (show v = _ from r); rfl
  | edict => obtain ⟨a, rfl, _⟩ := r; rfl
  | rpr _ => cases (show v = _ from r); rfl
def isD (_ : Hc) (x y : D) : Option D := match y with
  | .non => some (.bl (isNon x))
  | _ => none
def isNotD (_ : Hc) (x y : D) : Option D := match y with
  | .non => some (.bl (!isNon x))
  | _ => none
theorem om_is : OpM X (compareOp .Is) isD := by
  refine OpM.of op_isN fun w h dx dy d H x y Q e s rx ry k => ?_
  unfold isD at e
  split at e
  · cases e
    refine ⟨ry, ?_⟩
    rw [isNon_ok rx]
    exact k w H _ w.le_refl s (Keep.refl _ _ _) rfl
  · cases e
theorem om_isNot : OpM X (compareOp .IsNot) isNotD := by
  refine OpM.of op_notN fun w h dx dy d H x y Q e s rx ry k => ?_
  unfold isNotD at e
  split at e
  · cases e
    refine ⟨ry, ?_⟩
    rw [isNon_ok rx]
    exact k w H _ w.le_refl s (Keep.refl _ _ _) rfl
  · cases e
/-! ### str(i), int(text), figures -/
def strD (_ : Hc) (ds : List D) : Option D := match ds with
  | [.int i] => if 0 ≤ i ∧ i ≤ 9 then some (.str [48 + i.toNat]) else none
  | _ => none
theorem cm_str : CallM X (.type "str") strD := by
  refine CallM.of call_str_int fun w h ds d H xs Q e s r k => ?_
  unfold strD at e
  split at e
  · split at e
    · rename_i i hi
      cases e
      obtain ⟨v, rfl, rfl⟩ := r.one
      obtain ⟨e1, e2⟩ := fig_text hi
      refine ⟨i, rfl, e2, ?_⟩
      have q := k w H (.str (cs [48 + i.toNat])) w.le_refl s (Keep.refl _ _ _) ⟨rfl, by show 1 ≤ sizeLine; decide, by simp; omega⟩
      rw [← e1] at q
      exact q
    · cases e
  · cases e
def intTD (h : Hc) (ds : List D) : Option D := match ds with
  | [.str [c]] => if 48 ≤ c ∧ c ≤ 57 then some (.int ((c : Int) - 48)) else none
  | ds => intD h ds
theorem fig_int {c : Nat} (h : 48 ≤ c ∧ c ≤ 57) : PySem.intText? (cs [c]) = some ((c : Int) - 48) := by
  have : c = 48 ∨ c = 49 ∨ c = 50 ∨ c = 51 ∨ c = 52 ∨ c = 53 ∨ c = 54 ∨ c = 55 ∨ c = 56 ∨ c = 57 := by omega
  rcases this with rfl | rfl | rfl | rfl | rfl | rfl | rfl | rfl | rfl | rfl <;> decide +kernel
theorem cm_intT : CallM X (.type "int") intTD := by
  intro w h ds d pins s σ H xs us Q e si r1 I rx q
  unfold intTD at e
  split at e
  · rename_i c
    split at e
    · rename_i hc
      cases e
      obtain ⟨v, rfl, rfl, _⟩ := r1.one
      exact call_int_str pins s σ H _ us Q I rx ⟨cs [c], _, rfl, fig_int hc, by rw [cs_length]; show 1 ≤ 640; decide, q w H _ w.le_refl si (Keep.refl _ _ _) rfl⟩
    · cases e
  · exact cm_int w h _ d pins s σ H xs us Q e si r1 I rx q
/-! ### text.index(text), where it is found -/
def indexD (_ : Hc) (a : List Nat) (y : D) : Option D := match y with
  | .str b => if b.length ≠ 0 then (TL.par b [] a).map fun z => .int (z.1.length : Nat) else none
  | _ => none
theorem me_index (ho : ME X W o mo) (he : ME X W e me) (hs : starEach [e] X.env = [(false, eval e X.env)] := by rfl) (hbase : attributeBase o "index" X.env (eval o X.env) = eval o X.env := by rfl) (hline : (apos.endLine == pos.line) = true := by rfl) :
    ME X W (.Call (.Attribute o "index" apos) [e] [] pos) (strMV indexD mo me) :=
  PE.weak (pe_m1 PySem.F.slot_str_index PySem.F.type_str_index mt_sindex ho he hs hbase hline) fun σ H Q t => strM_read (fun w h H a y v d ed s za ca ry kk => by
    unfold indexD at ed
    split at ed
    · rename_i b
      split at ed
      · rename_i hb
        obtain ⟨⟨p, q⟩, ep, rfl⟩ := Option.map_eq_some_iff.mp ed
        obtain ⟨rfl, zb, cb⟩ := ry
        have nb : b ≠ [] := fun z => hb (by rw [z]; rfl)
        have e1 : Txt.partition (cs a) (cs b) = (cs p, cs b, cs q) := SX.partition_some nb ep
        unfold Txt.partition at e1
        split at e1
        · rename_i i rest eo
          have e2 := congrArg Prod.fst e1
          refine ⟨cs a, cs b, i, rest, rfl, rfl, eo, ?_⟩
          have hi := StrLaws.occ_spec (cs a) (cs b) 0 (cs a).length 1 i (by rw [eo]; exact List.mem_cons_self)
          have hl : i = p.length := by
            have e3 : (Builtin.Str.strSub (cs a) 0 i).length = (cs p).length := congrArg Str.length e2
            rw [cs_length p] at e3
            rw [← e3]
            have hia : i ≤ (cs a).length := by have := hi.1; omega
            rw [PySem.size_strSub _ _ _ hia]; omega
          rw [hl]
          exact kk w H _ w.le_refl s (Keep.refl _ _ _) rfl
        · exfalso
          have e2 := congrArg (fun z => z.2.1) e1
          have e3 : (Str.empty).length = (cs b).length := congrArg Str.length e2
          rw [cs_length] at e3
          exact hb e3.symm
      · cases ed
    · cases ed) t
end
end Mz

/-! defs that say repr: nothing is being shown where they are called -/
namespace Mz
open PySem L2
/-- a def's contract where no repr is under way -/
structure FnG (P : Program) (w : World) (K : PySem.W.Frag) (mg : Str → Option Value) (base : Heap) (CX : CXT) (k : Nat) (f : Addr) (fd : FuncData) (ps : List Str) (sp : Sp) : Prop where
  size : ∀ vs H Q E, sp vs H Q E → vs.length = ps.length
  go : ∀ (A : Around) (outer : List Env) (s : Shared) (H : Hp) (args : Args) (us : List Value) (vs : List V) (Q : VK) (E : XK), A.guards = some [] → Room k A → Env0 P w K mg base A outer s H →
    BindsTo s fd args (ps.zip us) → Vals vs us → sp vs H Q E → codeAny (model P w) A (.call (.ref f) args) (CR CX outer P w H s Q E) s
/-- a def by its body -/
theorem FnG.of {P : Program} {w : World} {K : PySem.W.Frag} {mg : Str → Option Value} {base : Heap} {CX : CXT} {x qual : Str} {st : Stmt} {f : Addr} {fd : FuncData} {N ps : List Str} {k : Nat} {sp : Sp} (F : Fun K x qual st f fd) (S : FnScope N ps (defScope st))
    (size : ∀ vs H Q E, sp vs H Q E → vs.length = ps.length)
    (hbody : ∀ (cdv : Value) (A : Around) (outer : List Env) (s : Shared) (H : Hp) (vs : List V) (Q : VK) (E : XK), A.guards = some [] → Room k (A.deeper (PyProof.Rows.envOfC qual (defScope st) s.heap.objs.size f cdv)) → sp vs H Q E →
      ∃ t, PSs (cxOf CX P w K mg base N qual (defScope st) f cdv A outer s H E) (defBody st) t ∧ t { nx := fun _ H' => Q .non H', rt := Q } (L2.start N vs) H) : FnG P w K mg base CX (k + 1) f fd ps sp := by
  obtain ⟨oc, od, kV, doc, pm, an, cdv, ct, osl, rfl, lk, hcd⟩ := F.ex
  exact ⟨size, fun A outer s H args us vs Q E hgd hr e0 hb r hsp => LamX.run_ofS lk hcd S hr e0 hb r (size _ _ _ _ hsp) fun hr' => hbody cdv A outer s H vs Q E hgd hr' hsp⟩
/-- contracts by mirrors -/
structure Fn0G (P : Program) (w : World) (K : PySem.W.Frag) (mg : Str → Option Value) (base : Heap) (k : Nat) (x : Str) (m : List D → M D) : Prop where
  ex : ∃ f fd ps n, FnG P w K mg base CX0 k f fd ps (spM0 K n m) ∧ mg x = some (.ref f) ∧ PySem.W.keepIn K (.ref f) = true ∧ Binds K fd ps [] ∧ ∀ ds h, ds.length ≠ n → m ds h = .bad
structure Fn1G (P : Program) (w : World) (K : PySem.W.Frag) (mg : Str → Option Value) (base : Heap) (k : Nat) (x : Str) (m : List D → M D) : Prop where
  ex : ∃ f fd ps n, FnG P w K mg base (L2.CX P w) k f fd ps (spM1 K mg n m) ∧ mg x = some (.ref f) ∧ PySem.W.keepIn K (.ref f) = true ∧ Binds K fd ps [] ∧ ∀ ds h, ds.length ≠ n → m ds h = .bad
theorem fng0_make {P : Program} {w : World} {K : PySem.W.Frag} {mg : Str → Option Value} {base : Heap} {x qual : Str} {st : Stmt} {f : Addr} {fd : FuncData} {N ps : List Str} {k n nn : Nat} {m : S} (F : Fun K x qual st f fd) (Sc : FnScope N ps (defScope st))
    (hn : ps.length = n) (hnn : N.length = nn)
    (hbody : ∀ (cdv : Value) (A : Around) (outer : List Env) (s : Shared) (H : Hp) (E : XK), A.guards = some [] → Room k (A.deeper (PyProof.Rows.envOfC qual (defScope st) s.heap.objs.size f cdv)) →
      MSs (cxOf CX0 P w K mg base N qual (defScope st) f cdv A outer s H E).nox W0 (defBody st) m) : FnG P w K mg base CX0 (k + 1) f fd ps (spM0 K n (bodyM n nn m)) := by
  subst hn hnn
  refine FnG.of F Sc (fun vs H Q E ⟨w, h, ds, e, s, r, _⟩ => by rw [r.length, e]) fun cdv A outer s H vs Q E hgd hr ⟨w1, h, ds, e, si, r, q⟩ => ?_
  refine ⟨_, PSs.nox (hbody cdv A outer s H E hgd hr), w1, ds.map some ++ List.replicate (N.length - ds.length) none, h, si, SimL.start r N, ?_⟩
  unfold bodyM at q
  rw [if_pos e, ← e] at q
  show ResS K mg w1 h H W0 _ _
  cases eb : m (ds.map some ++ List.replicate (N.length - ds.length) none) h with
  | bad => simp only [eb] at q
  | exc c d l h' => simp only [eb] at q
  | ok fl h' =>
    cases fl with
    | nx l => simp only [eb] at q; exact fun w' H' σ' l2 s2 k2 _ => q w' H' .non l2 s2 k2 rfl
    | rt d => simp only [eb] at q; exact q
    | bk l => simp only [eb] at q
    | ct l => simp only [eb] at q
theorem Fn0G.make {P : Program} {w : World} {K : PySem.W.Frag} {mg : Str → Option Value} {base : Heap} {x qual : Str} {st : Stmt} {f : Addr} {fd : FuncData} {N ps : List Str} {k n nn : Nat} {m : S} (F : Fun K x qual st f fd) (hm : mg x = some (.ref f)) (Sc : FnScope N ps (defScope st)) (b : Binds K fd ps [])
    (hn : ps.length = n) (hnn : N.length = nn)
    (hbody : ∀ (cdv : Value) (A : Around) (outer : List Env) (s : Shared) (H : Hp) (E : XK), A.guards = some [] → Room k (A.deeper (PyProof.Rows.envOfC qual (defScope st) s.heap.objs.size f cdv)) →
      MSs (cxOf CX0 P w K mg base N qual (defScope st) f cdv A outer s H E).nox W0 (defBody st) m) : Fn0G P w K mg base (k + 1) x (bodyM n nn m) :=
  ⟨f, fd, ps, n, fng0_make F Sc hn hnn hbody, hm, F.kp, b, fun ds h e => by unfold bodyM; rw [if_neg e]⟩
theorem Fn1G.make {P : Program} {w : World} {K : PySem.W.Frag} {mg : Str → Option Value} {base : Heap} {x qual : Str} {st : Stmt} {f : Addr} {fd : FuncData} {N ps : List Str} {k n nn : Nat} {m : S} (F : Fun K x qual st f fd) (hm : mg x = some (.ref f)) (Sc : FnScope N ps (defScope st)) (b : Binds K fd ps [])
    (hn : ps.length = n) (hnn : N.length = nn)
    (hbody : ∀ (cdv : Value) (A : Around) (outer : List Env) (s : Shared) (H : Hp) (E : XK), A.guards = some [] → Room k (A.deeper (PyProof.Rows.envOfC qual (defScope st) s.heap.objs.size f cdv)) →
      MSs (cxOf (L2.CX P w) P w K mg base N qual (defScope st) f cdv A outer s H E) (fun cls d _ H => E cls d H) (defBody st) m) : Fn1G P w K mg base (k + 1) x (bodyM n nn m) := by
  subst hn hnn
  refine ⟨f, fd, ps, ps.length, ?_, hm, F.kp, b, fun ds h e => by unfold bodyM; rw [if_neg e]⟩
  refine FnG.of F Sc (fun vs H Q E ⟨w, h, ds, e, s, r, _⟩ => by rw [r.length, e]) fun cdv A outer s H vs Q E hgd hr ⟨w1, h, ds, e, si, r, q⟩ => ?_
  refine ⟨_, hbody cdv A outer s H E hgd hr, w1, ds.map some ++ List.replicate (N.length - ds.length) none, h, si, SimL.start r N, ?_⟩
  unfold bodyM at q
  rw [if_pos e, ← e] at q
  show ResS K mg w1 h H _ _ _
  cases eb : m (ds.map some ++ List.replicate (N.length - ds.length) none) h with
  | bad => simp only [eb] at q
  | exc c d l h' => simp only [eb] at q; exact fun w' H' σ' cls dd l2 s2 k2 _ x => q w' H' cls dd l2 s2 k2 x
  | ok fl h' =>
    cases fl with
    | nx l => simp only [eb] at q; exact fun w' H' σ' l2 s2 k2 _ => q w' H' .non l2 s2 k2 rfl
    | rt d => simp only [eb] at q; exact q
    | bk l => simp only [eb] at q
    | ct l => simp only [eb] at q
section
variable {X : Cx} {W : WX'} {a : Expr} {es : List Expr} {mr : L → M (List D)} {pos : Pos}
/-- the callee goes -/
theorem run_G {CX : CXT} {k : Nat} {f : Addr} {fd : FuncData} {ps : List Str} {sp : Sp} {E : XK} {pins : List (Addr × Obj)} {σ : St} {H : Hp} {s : Shared} {Q : VK} {us : List Value} {vs : List V} (F : FnG X.prog X.w X.K X.mg X.base CX k f fd ps sp) (hgd : X.A.guards = some []) (hr : Room k X.A)
    (hb : Binds X.K fd ps []) (hx : PassesAt CX X σ E) (I : Inv X pins σ H s) (r : Vals vs us) (h : sp vs H Q E) : wpAny (model X.prog X.w) X.A (call (.ref f) us) (EP X pins σ Q) X.xe s := by
  have hl : us.length = ps.length := by rw [← r.length]; exact F.size _ _ _ _ h
  have b := hb s us I.kIn (by rw [List.append_nil]; exact hl)
  rw [List.append_nil] at b
  refine wpAny_call (codeAny_mono (F.go X.A X.stack s H ⟨us, []⟩ us vs Q E hgd hr I.env0 b r h) fun r s' hq => ?_)
  match r, hq with
  | .error e, hq => exact hx pins H s e s' I hq
  | .ok (.ret u), hq => exact I.after hq
  | .ok .next, hq => exact hq.elim
  | .ok .brk, hq => exact hq.elim
  | .ok .cont, hq => exact hq.elim
theorem me_callG {k : Nat} {x : Str} {p : Pos} {f : List D → M D} (F : Fn0G X.prog X.w X.K X.mg X.base k x f) (hgd : X.A.guards = some []) (hr : Room k X.A) (hg : Gl X x) (ha : MA X W (a :: es) mr) (hdb : (x == ("__debug__" : Str)) = false := by decide)
    (he : starEach (a :: es) X.env = (false, eval a X.env) :: starEach es X.env := by rfl) (hpl : (backTo pos (starEach es X.env)).any (·.1) = false := by rfl) : ME X W (.Call (.Name x p) (a :: es) [] pos) (callF f mr) := by
  obtain ⟨fa, fd, ps, n, F, hm, hk, hb, hl⟩ := F.ex
  refine ⟨fun pins s σ H Q I t => ?_⟩
  refine wpAny_Call_Name_kw (ld_glob I hg hm ?_ hdb)
  refine PySem.W.callWith_K (h₀ := X.base) I.ok.mod.kin hk (thn (ha.run pos pins s σ H _ I (fn0_read hl t)) fun us s1 ⟨vs, H1, I1, r, q⟩ => ⟨I1.kIn, ?_⟩) he hpl
  exact run_G F hgd hr hb (fun _ _ _ _ _ _ z => z.elim) I1 r q
theorem me_callXG {k : Nat} {x : Str} {p : Pos} {f : List D → M D} (F : Fn1G X.prog X.w X.K X.mg X.base k x f) (tk : Takes X W) (hgd : X.A.guards = some []) (hr : Room k X.A) (hg : Gl X x) (ha : MA X W (a :: es) mr) (hdb : (x == ("__debug__" : Str)) = false := by decide)
    (he : starEach (a :: es) X.env = (false, eval a X.env) :: starEach es X.env := by rfl) (hpl : (backTo pos (starEach es X.env)).any (·.1) = false := by rfl) : ME X W (.Call (.Name x p) (a :: es) [] pos) (callX f mr) := by
  obtain ⟨fa, fd, ps, n, F, hm, hk, hb, hl⟩ := F.ex
  refine ⟨fun pins s σ H Q I ⟨w, l, h, si, sl, r⟩ => ?_⟩
  have t := tG_bind (repA := RVs X.K) (f := f) si sl r
  refine wpAny_Call_Name_kw (ld_glob I hg hm ?_ hdb)
  refine PySem.W.callWith_K (h₀ := X.base) I.ok.mod.kin hk (thn (ha.run pos pins s σ H _ I t) fun us s1 ⟨vs, H1, I1, rs, w1, ds, h1, l1, s1', k1, rv, r1⟩ => ⟨I1.kIn, ?_⟩) he hpl
  refine run_G F hgd hr hb (passAt tk σ) I1 rs ?_
  have en : f ds h1 ≠ .bad → ds.length = n := fun z => by
    by_cases q : ds.length = n
    · exact q
    · exact absurd (hl ds h1 q) z
  cases ef : f ds h1 with
  | bad => rw [ef] at r1; exact r1.elim
  | exc c d h' =>
    rw [ef] at r1
    exact ⟨w1, h1, ds, en (by rw [ef]; intro z; cases z), s1', rv, by simp only [ef]; exact r1⟩
  | ok d h' =>
    rw [ef] at r1
    exact ⟨w1, h1, ds, en (by rw [ef]; intro z; cases z), s1', rv, by simp only [ef]; exact r1⟩
end
end Mz

/-! the law's own call: the script and the tables of code objects are known, nothing else -/
namespace Mz
open PySem L2 PySem.Spec PyProof.Rows
/-- what is tracked at the law's call -/
def H0 (T : List Addr) (a : Addr) (o : Option HO) : Hp := fun b => if b = a then o else if b ∈ T then some (.tbl #[]) else none
theorem H0_tab {T : List Addr} {a b : Addr} {o : Option HO} (n : b ≠ a) (m : b ∈ T) : H0 T a o b = some (.tbl #[]) := by unfold H0; rw [if_neg n, if_pos m]
theorem H0_cases {T : List Addr} {a b : Addr} {o : Option HO} {u : HO} (e : H0 T a o b = some u) : (b = a ∧ o = some u) ∨ (b ≠ a ∧ b ∈ T ∧ u = .tbl #[]) := by
  unfold H0 at e
  split at e
  · exact .inl ⟨‹_›, e⟩
  · split at e
    · exact .inr ⟨‹_›, ‹_›, (Option.some.inj e).symm⟩
    · cases e
theorem lawG_call {P : Program} {w : World} {K : PySem.W.Frag} {mg mb : Str → Option Value} {CX : CXT} {k : Nat} {fa a : Addr} {cs : List (Addr × Addr)} {fd : FuncData} {x : Str} {sp : Sp} {s₁ : Shared} {vs : List Value} {ns : List Int}
    (KX : K.In s₁.heap) (hns : s₁.heap.Ns mainGlobals mg) (hb : s₁.heap.Ns builtinsNs mb) (hbb : ∀ x : Str, x ≠ "__name__" → mb x = bootBuiltins x) (hlim : s₁.heap.NoLimit) (hg : s₁.gens = #[])
    (hT : ∀ p ∈ cs, s₁.heap.get? p.2 = some { cls := .none, data := .fields #[] }) (nT : ∀ p ∈ cs, K.lookup p.2 = none) (C : ∀ p ∈ cs, PySem.W.CodeHd s₁.heap p.1 p.2)
    (hbm : ∃ (bm : Addr) (ob : Obj), mg "__builtins__" = some (.ref bm) ∧ bm ≠ builtinsNs ∧ s₁.heap.get? bm = some ob ∧ ob.cls = .type "module" ∧ ob.dict = some builtinsNs ∧ ob.data = .plain)
    (ha : s₁.heap.get? a = some { cls := .type "list", data := .seq vs.toArray }) (hi : IntsAre vs ns) (hl : ns.length ≤ sizeLine) (hr : Room k callerA)
    (F : ∀ base : Heap, K.In base → base.Ns mainGlobals mg → (∀ p ∈ cs, LamX.TabB base mg p.1 p.2) → FnG P w K mg base CX k fa fd [x] sp) (hbind : ∀ (s : Shared) (u : Value), BindsTo s fd ⟨[u], []⟩ [(x, u)])
    (hsp : ∀ H : Hp, (∀ p ∈ cs, H p.2 = some (.tbl #[])) → SqL K H a (ns.map V.int) → (∀ p ∈ cs, p.2 ≠ a) → sp [.ref a] H (fun v _ => v = .bl true) fun _ _ _ => False)
    (hCX : ∀ H e s', CX [] H s₁ (fun _ _ _ => False) e s' → False) :
    codeAny (model P w) callerA (.call (.ref fa) ⟨[.ref a], []⟩) (fun r s' => r = .ok (.ret (.bool true)) ∧ OldK s₁.heap s'.heap ∧ s'.os = s₁.os ∧ AllBare s'.gens) s₁ := by
  have rv := vals_ints hi
  have lenV := hi.length
  let T : List Addr := cs.map (·.2)
  have tabT : ∀ b ∈ T, ∃ p ∈ cs, p.2 = b := fun b m => List.mem_map.mp m
  have inT : ∀ p ∈ cs, p.2 ∈ T := fun p m => List.mem_map.mpr ⟨p, m, rfl⟩
  have getT : ∀ b ∈ T, s₁.heap.get? b = some { cls := .none, data := .fields #[] } := fun b m => by
    obtain ⟨p, hp, rfl⟩ := tabT b m
    exact hT p hp
  have neT : ∀ b ∈ T, b ≠ a := fun b m z => by
    have q := getT b m
    rw [z, ha] at q
    have := congrArg Obj.data (Option.some.inj q)
    cases this
  suffices core : ∀ o : Option HO, (∀ u, o = some u → K.lookup a = none ∧ u = .frz { cls := .type "list", data := .seq vs.toArray } (.lst (ns.map V.int))) → SqL K (H0 T a o) a (ns.map V.int) →
      codeAny (model P w) callerA (.call (.ref fa) ⟨[.ref a], []⟩) (fun r s' => r = .ok (.ret (.bool true)) ∧ OldK s₁.heap s'.heap ∧ s'.os = s₁.os ∧ AllBare s'.gens) s₁ by
    cases hk : K.lookup a with
    | some o =>
      have e := KX a o hk
      rw [ha] at e
      cases e
      exact core none (fun u z => by cases z) (.inr ⟨_, vs.toArray, _, hk, rfl, rfl, rfl, by rw [List.size_toArray, lenV]; exact hl, by simpa using rv⟩)
    | none => exact core (some (.frz { cls := .type "list", data := .seq vs.toArray } (.lst (ns.map V.int)))) (fun u z => ⟨hk, (Option.some.inj z).symm⟩) (.inl (.inr ⟨_, by unfold H0; rw [if_pos rfl]⟩))
  intro o ho hS
  let H : Hp := H0 T a o
  have tracked : ∀ b u, H b = some u → (b = a ∧ u = .frz { cls := .type "list", data := .seq vs.toArray } (.lst (ns.map V.int)) ∧ K.lookup a = none) ∨ (b ∈ T ∧ u = .tbl #[]) := fun b u e => by
    rcases H0_cases e with ⟨rfl, q⟩ | ⟨_, m, q⟩
    · exact .inl ⟨rfl, (ho u q).2, (ho u q).1⟩
    · exact .inr ⟨m, q⟩
  have hok : HOk P w H s₁.heap := fun b u e => by
    rcases tracked b u e with ⟨rfl, rfl, _⟩ | ⟨m, rfl⟩
    · exact ⟨ha, by rw [List.length_map]; exact hl, vs, _, rv, ha⟩
    · exact getT b m
  -- what has other data is not tracked
  have clear : ∀ {b : Addr} {ob : Obj}, s₁.heap.get? b = some ob → (∀ us n, ob.data ≠ .seq us n) → ob.data ≠ .fields #[] → H b = none := fun {b ob} e n1 n2 => by
    cases q : H b with
    | none => rfl
    | some u =>
      rcases tracked b u q with ⟨rfl, _, _⟩ | ⟨m, _⟩
      · rw [ha] at e; cases e
        exact absurd rfl (n1 _ _)
      · rw [getT b m] at e; cases e
        exact absurd rfl n2
  have down : ∀ {b : Addr} {ob : Obj}, s₁.heap.get? b = some ob → H b = none → (hidT s₁.heap H).get? b = some ob := fun e n => hidT_get e n
  have nsB : ∀ {b : Addr} {m : Str → Option Value}, s₁.heap.Ns b m → (hidT s₁.heap H).Ns b m := fun {b m} q => by
    obtain ⟨ob, es, ep, e, d, r⟩ := q
    exact ⟨ob, es, ep, down e (clear e (fun us n z => by rw [d] at z; cases z) (fun z => by rw [d] at z; cases z)), d, r⟩
  have KB : K.In (hidT s₁.heap H) := fun b ob e => down (KX b ob e) (by
    cases q : H b with
    | none => rfl
    | some u =>
      rcases tracked b u q with ⟨rfl, _, n⟩ | ⟨m, _⟩
      · rw [n] at e; cases e
      · obtain ⟨p, hp, rfl⟩ := tabT b m
        rw [nT p hp] at e; cases e)
  have TB : ∀ p ∈ cs, LamX.TabB (hidT s₁.heap H) mg p.1 p.2 := fun p hp => by
    refine ⟨?_, ?_, fun z => ?_⟩
    · obtain ⟨ob, us, file, tf, flags, tg, inF, text, tt, e1, r1, r2, r3, rest⟩ := C p hp
      refine ⟨ob, us, file, tf, flags, tg, inF, text, tt, down e1 (clear e1 (fun us n z => by rw [r2] at z; cases z) (fun z => ?_)), r1, r2, r3, rest⟩
      rw [r2] at z; cases z
      simp at r3
    · obtain ⟨bm, ob, b1, b2, b3, b4, b5, b6⟩ := hbm
      refine ⟨bm, ob, b1, b2, fun q => ?_, fun q => ?_, down b3 (clear b3 (fun us n z => by rw [b6] at z; cases z) (fun z => by rw [b6] at z; cases z)), b4, b5, b6⟩
      · obtain ⟨og, es, ep, e, hd, _⟩ := hns
        rw [q, e] at b3; cases b3
        rw [hd] at b6; cases b6
      · rw [q, hT p hp] at b3; cases b3
        cases b6
    · obtain ⟨og, es, ep, e, hd, _⟩ := hns
      rw [z, hT p hp] at e; cases e
      cases hd
  have e0 : Env0 P w K mg (hidT s₁.heap H) callerA [] s₁ H := ⟨rfl, ⟨KB, nsB hns, ⟨mb, nsB hb, hbb⟩, by obtain ⟨mc, h1, h2⟩ := hlim; exact ⟨mc, nsB h1, h2⟩⟩, fun b ob e => of_hidT e, Nat.le_of_eq (hidT_size _ _), trivial, fun b z => (List.not_mem_nil (show b ∈ ([] : List Addr) from z)).elim, hok, .of_eq hg⟩
  refine codeAny_mono ((F _ KB (nsB hns) TB).go callerA [] s₁ H ⟨[.ref a], []⟩ [.ref a] [.ref a] _ _ rfl hr e0 (hbind s₁ (.ref a)) (.cons rfl .nil) (hsp H (fun p hp => H0_tab (neT _ (inT p hp)) (inT p hp)) hS fun p hp => neT _ (inT p hp))) fun r s' z => ?_
  match r, z with
  | .error e, z => exact (hCX H e s' z).elim
  | .ok .next, z => exact z.elim
  | .ok .brk, z => exact z.elim
  | .ok .cont, z => exact z.elim
  | .ok (.ret u), z =>
    obtain ⟨v, H', os, bare, un, hok', r', q⟩ := z
    have q : v = .bl true := q
    subst q
    obtain rfl : u = Value.bool true := r'
    have stays : ∀ b ob, b ∉ T → s₁.heap.get? b = some ob → s'.heap.get? b = some ob := fun b ob nb e => by
      cases q : H b with
      | none => exact un.keep b ob e q (fun z => List.not_mem_nil z) (fun z => List.not_mem_nil z)
      | some u =>
        rcases tracked b u q with ⟨rfl, rfl, _⟩ | ⟨m, _⟩
        · have e1 := (hok _ _ q).1
          have e2 := (hok' _ _ (un.frzs _ _ _ q)).1
          rw [e] at e1; cases e1
          exact e2
        · exact absurd m nb
    have grown : ∀ p ∈ cs, ∃ more : Array Value, s'.heap.get? p.2 = some { cls := .none, data := .fields more } := fun p hp => by
      obtain ⟨more, z⟩ := un.tbls p.2 #[] (H0_tab (neT _ (inT p hp)) (inT p hp))
      exact ⟨_, hok' p.2 _ z⟩
    refine ⟨rfl, ⟨fun b ob e => ?_, fun b ob e => ?_⟩, os, bare⟩
    · by_cases m : b ∈ T
      · obtain ⟨p, hp, rfl⟩ := tabT b m
        obtain ⟨more, hm⟩ := grown p hp
        rw [hT p hp] at e; cases e
        exact .inr (.inl ⟨((C p hp).tab (hT p hp)).isCodeTable, rfl, #[], more, rfl, by rw [Array.empty_append]; exact hm⟩)
      · exact .inl (stays b ob m e)
    · by_cases m : b ∈ T
      · obtain ⟨p, hp, rfl⟩ := tabT b m
        obtain ⟨more, hm⟩ := grown p hp
        exact ⟨_, hm⟩
      · exact ⟨ob, stays b ob m e⟩
end Mz

/-! an own error whose __init__ says super().__init__(repr(value)); self.value = value -/
namespace Mz
open PySem PySem.Spec PyProof.Rows L2 PySem.W
/-- repr(v) is the text x, from the heap h₀ on, where nothing is being shown -/
def ReprTo (P : Program) (w : World) (h₀ : Heap) (v : Value) (x : Str) : Prop := ∀ (A : Around) (E : Value → Shared → Prop) (s : Shared) (Q : Value → Shared → Prop), A.guards = some [] → A.units + 66 < cLine →
  (∀ b o, h₀.get? b = some o → s.heap.get? b = some o) → (∀ h' u tk, (∀ b o, s.heap.get? b = some o → h'.get? b = some o) → Q (.str x u) { s with heap := h', toks := tk }) →
  wpAny (model P w) A (call (.builtin "repr") [v]) Q E s
theorem ReprTo.keeps {P : Program} {w : World} {h h' : Heap} {v : Value} {x : Str} (r : ReprTo P w h v x) (k : ∀ b o, h.get? b = some o → h'.get? b = some o) : ReprTo P w h' v x :=
  fun A E s Q g u k0 q => r A E s Q g u (fun b o e => k0 b o (k b o e)) q
abbrev stA (p1 p2 : Pos) : Arguments := { posonlyargs := [], args := [{ arg := "self", annotation := none, pos := p1 }, { arg := "value", annotation := none, pos := p2 }], vararg := none, kwonlyargs := [], kw_defaults := [], kwarg := none, defaults := [] }
abbrev stB (q1 q2 q3 q4 q5 q6 q7 q8 q9 q10 q11 q12 : Pos) : List Stmt :=
  [.Expr (.Call (.Attribute (.Call (.Name "super" q1) [] [] q2) "__init__" q3) [.Call (.Name "repr" q4) [.Name "value" q5] [] q6] [] q7) q8,
   .Assign [.Attribute (.Name "self" q9) "value" q10] (.Name "value" q11) q12]
abbrev stS : Scope := { kind := .function, names := [(PySem.Str.ofString "self", .local), (PySem.Str.ofString "value", .local), (PySem.Str.ofString "__class__", .free), (PySem.Str.ofString "super", .globalImplicit), (PySem.Str.ofString "repr", .globalImplicit)], isGenerator := false, isCoroutine := false, more := [] }
/-- what the written part says of the base class S, of its __init__ at fI -/
structure StBase (K : Frag) (mg : Str → Option Value) (P : Program) (S fI : Addr) : Prop where
  fn : ∃ (oc : Value) (od : Option Addr) (doc pm kV : Value) (an : Option Addr) (cda : Addr) (ct : Value) (cc : Addr) (osl : Array (Option Value)) (p1 p2 q1 q2 q3 q4 q5 q6 q7 q8 q9 q10 q11 q12 : Pos) (qual : Str),
    K.lookup fI = some ⟨oc, od, .func (ksFn "__init__" qual (stA p1 p2) (stB q1 q2 q3 q4 q5 q6 q7 q8 q9 q10 q11 q12) stS .none kV doc pm an (.ref cda) ct cc), osl⟩ ∧ codeIn K (.ref cda) qual = true ∧ (q3.endLine == q7.line) = true ∧
    (∃ (ccl : Value) (cdd : Option Addr) (ccs : Array (Option Value)) (vs : Array Value) (file : Str) (tf : Tok), K.lookup cda = some ⟨ccl, cdd, .fields vs, ccs⟩ ∧ vs[2]? = some (.str file tf) ∧ ((P.main.file : Str) == file) = true) ∧
    ∃ (cl : Value) (cld : Option Addr) (csl : Array (Option Value)), K.lookup cc = some ⟨cl, cld, .cell (some (.ref S)), csl⟩
  top : (P.main.scope.names.lookup ("super" : Str)).isSome = false
  clsS : ∃ cd, clsIn K S = some cd
  tp : nsIn K cStatics "thirdparty.any" = some none
  sup : mg "super" = none
  rep : mg "repr" = none
  tI : typeIn K (.ref fI) = some (.type "function")
/-- .. and of a class C over it -/
structure StCls (K : Frag) (C S fI : Addr) (bmB : List Value) : Prop where
  oex : OexC K C
  ini : excInitIn K C bmB "ValueError.__new__" = true
  noN : findIn K (.ref C) "value" = some none
  iC : findIn K (.ref C) "__init__" = some (some (.ref fI))
  up : ks_superIn K C S "__init__" = some (some (.builtin "ValueError.__init__"))
  ve : subIn K (.ref C) (.type "ValueError") = some true
  mro : mroIn K C (.ref S) = some true
/-- what __init__ leaves of a fresh exception at x -/
structure StEnd (h h' : Heap) (x C dx t1 : Addr) (v : Value) : Prop where
  keep : ∀ b o, b ≠ x → h.get? b = some o → h'.get? b = some o
  obj : h'.get? x = some { cls := .ref C, dict := some dx, data := .fields #[.ref t1, .none, .none, .none, .bool false, .none] }
  dbig : h.objs.size ≤ dx
  dne : dx ≠ x
  ns : h'.Ns1 dx (fun y => if y = "value" then some v else none)
section
variable {P : Program} {w : World} {A : Around} {R : Result → Shared → Prop} {s : Shared} {K : Frag} {mg mb : Str → Option Value} {C S fI : Addr} {bmB : List Value}
theorem st_init (T : StBase K mg P S fI) (TC : StCls K C S fI bmB) (FB : ExcBaseFacts "ValueError" "ValueError.__new__" "ValueError.__init__" bmB) {x t0 : Addr} {v : Value} {tx : Str} (X : K.In s.heap) (hlim : s.heap.NoLimit) (hG : s.heap.Ns mainGlobals mg) (hB : s.heap.Ns builtinsNs mb)
    (hbb : ∀ x : Str, x ≠ "__name__" → mb x = bootBuiltins x) (hx : s.heap.get? x = some (HandSPX.excO C t0)) (hnx : K.lookup x = none) (hroom : A.depth < recursionLimit) (hgd : A.guards = some []) (hu : A.units + 100 < cLine) (hrep : ReprTo P w s.heap v tx)
    (hq : ∀ h' tk dx t1, StEnd s.heap h' x C dx t1 v → R (.ok (.ret .none)) { s with heap := h', toks := tk }) :
    codeAny (model P w) A (.call (.ref fI) ⟨[.ref x, v], []⟩) R s := by
  obtain ⟨oc, od, doc, pm, kV, an, cda, ct, cc, osl, p1, p2, q1, q2, q3, q4, q5, q6, q7, q8, q9, q10, q11, q12, qual, hfn, hcd, hline, ⟨ccl, cdd, ccs, vs, file, tf, hcode, hvs, hfile⟩, ⟨cl, cld, csl, hcell⟩⟩ := T.fn
  obtain ⟨nm, q, N, bs, bm, sn, sub, ab, col, dd, k0, k1, k2, k3, k5, hC, hbm⟩ := TC.oex.cls
  have hcl : clsIn K C = some { name := nm, bases := bs, mro := .ref C :: bm, ns := N, qualname := q, hasDict := true, slotNames := sn, subclasses := sub, abstract := ab, collection := col, hasDel := false } := by unfold clsIn; rw [hC] <;> rfl
  refine ks_codeAny_call_defAt (fd := ksFn "__init__" qual (stA p1 p2) (stB q1 q2 q3 q4 q5 q6 q7 q8 q9 q10 q11 q12) stS .none kV doc pm an (.ref cda) ct cc) (body := stB q1 q2 q3 q4 q5 q6 q7 q8 q9 q10 q11 q12) (binds := [("self", .ref x), ("value", v)])
    hroom (X _ _ hfn) rfl hlim (codeRec_of X hcd) rfl (BindsTo.of_eq (by first | rfl | with_unfolding_all rfl)) (show ∀ x ∈ stS.names, x.2 ≠ .cell by decide) (by intro y hy; simp at hy; rcases hy with rfl | rfl <;> rfl) (fun h₁ hns k₁ => ?_)
  have F : Fr (hideAll s.heap [x]) s.heap.objs.size h₁ (fun y => [(("self" : Str), Value.ref x), ("value", v)].reverse.lookup y) := ⟨hns, fun b o e => k₁ b o (of_hideAll _ e), Nat.le_of_eq (hideAll_size _ _)⟩
  have X₀ : K.In (hideAll s.heap [x]) := fun b o e => hideAll_get _ (X b o e) (fun z => by
    rw [List.mem_singleton.mp z, hnx] at e; cases e)
  have N1 : News (hideAll s.heap [x]) s.heap.objs.size h₁ [(x, excObj C t0 none .none)] := fun p hp => by
    rw [List.mem_singleton.mp hp]
    exact ⟨k₁ _ _ hx, Nat.ne_of_lt (Heap.lt_size hx), hideAll_none _ (List.mem_singleton.mpr rfl)⟩
  have G1 := hG.keeps k₁
  have B1 := hB.keeps k₁
  have X1 : K.In h₁ := X.keeps k₁
  have rep1 := hrep.keeps k₁
  have hgd' : (A.deeper (ksEnv qual stS s.heap.objs.size fI (.ref cda) cc)).guards = some [] := hgd
  have hu' : (A.deeper (ksEnv qual stS s.heap.objs.size fI (.ref cda) cc)).units + 66 < cLine := by
    show A.units + 3 + 66 < cLine
    omega
  have keep1 : ∀ b o, s.heap.get? b = some o → b ≠ x → (hideAll s.heap [x]).get? b = some o := fun b o e n => hideAll_get _ e (fun z => n (List.mem_singleton.mp z))
  -- super().__init__(repr(value))
  show PySem.wpAt _ _ _ (execs (stB q1 q2 q3 q4 q5 q6 q7 q8 q9 q10 q11 q12) (ksEnv qual stS s.heap.objs.size fI (.ref cda) cc)) _ _ _
  have he : eval (.Call (.Attribute (.Call (.Name "super" q1) [] [] q2) "__init__" q3) [.Call (.Name "repr" q4) [.Name "value" q5] [] q6] [] q7) (ksEnv qual stS s.heap.objs.size fI (.ref cda) cc) = (do
      let ov ← attributeBase (.Call (.Name "super" q1) [] [] q2) "__init__" (ksEnv qual stS s.heap.objs.size fI (.ref cda) cc) (eval (.Call (.Name "super" q1) [] [] q2) (ksEnv qual stS s.heap.objs.size fI (.ref cda) cc))
      standAt q3.atName
      let (f, first) ← holding [ov] (getMethod ov "__init__" (plainOf (.Call (.Name "super" q1) [] [] q2) (ksEnv qual stS s.heap.objs.size fI (.ref cda) cc)))
      callWith q7 f first (backTo q7 (starEach [.Call (.Name "repr" q4) [.Name "value" q5] [] q6] (ksEnv qual stS s.heap.objs.size fI (.ref cda) cc))) []) := by
    rw [arm_eval_Call]
    refine congrArg _ (funext fun ov => congrArg _ (funext fun _ => ?_))
    exact mcall_line rfl hline
  refine ks_wpAt_execs_cons (ks_wpAt_Expr_any (ks_wpAt_MethodCall ?_ he))
  obtain ⟨cdS, hS⟩ := T.clsS
  obtain ⟨oS, hS1, hS2⟩ : ∃ oS, h₁.get? S = some oS ∧ oS.data = .cls cdS := by
    unfold clsIn at hS
    split at hS
    · rename_i ho
      cases hS
      exact ⟨_, X1 _ _ ho, rfl⟩
    · cases hS
  refine ks_wpAt_super_base (env := ksEnv qual stS s.heap.objs.size fI (.ref cda) cc) rfl rfl (by decide) rfl (X1 _ _ hfn) rfl rfl rfl (X1 _ _ hcode) rfl hvs hfile T.top ?_
  refine ks_loadName_global rfl rfl (Calls.loadGlobal_builtin (env := ksEnv qual stS s.heap.objs.size fI (.ref cda) cc) G1 T.sup B1 ((hbb _ (by decide +kernel)).trans (by first | rfl | kernel_rfl)) ⟨rfl, ?_⟩)
  refine wpAny_loadName_free rfl rfl rfl ⟨_, X1 _ _ hcell, rfl⟩ ?_
  refine wpAny_loadName_local rfl rfl hns rfl ?_
  refine ks_wpAny_isType_cls hS1 hS2 ⟨rfl, ?_⟩
  have hx1 : h₁.get? x = some (excObj C t0 none .none) := k₁ _ _ hx
  refine ks_wpAny_call_super hS1 hS2 hx1 rfl (fun c e => by cases e) (looks_mroIn X1 TC.mro) (fun h₂ e₂ k₂ => ?_)
  obtain ⟨F2, N2, lt2⟩ := ks_newsPush (s := ⟨h₁, s.gens, s.drawn, s.toks + 2, s.os⟩) F N1 rfl e₂ k₂
  have I2 : InstAt h₂ x (excObj C t0 none .none) C none := ⟨k₂ _ _ hx1, rfl, rfl, trivial⟩
  refine kxs_method kxs_ValueError F2 X₀ N2 (List.mem_cons_self) I2 T.tp TC.up TC.ve (by decide) fun u h₃ F3 N3 lt3 => ?_
  show wpAny _ _ (callWith q7 (.ref u) [] _ []) _ _ _
  have ux : u ≠ x := Nat.ne_of_gt (lt3 (x, excObj C t0 none .none) (by simp))
  have sx : h₁.objs.size ≠ x := Nat.ne_of_gt (lt2 (x, excObj C t0 none .none) (by simp))
  have mu : (u, kxs_mw "ValueError.__init__" x) ∈ (u, kxs_mw "ValueError.__init__" x) :: [(h₁.objs.size, ks_superObj S x C), (x, excObj C t0 none .none)] := List.mem_cons_self
  have k13 : ∀ b o, b ≠ x → s.heap.get? b = some o → h₃.get? b = some o := fun b o n e => F3.keep b o (keep1 b o e n)
  have x3 : h₃.get? x = some (excObj C t0 none .none) := (N3 (x, excObj C t0 none .none) (by simp)).1
  have k3 : ∀ b o, s.heap.get? b = some o → h₃.get? b = some o := fun b o e => by
    by_cases hb : b = x
    · subst hb
      rw [hx] at e; cases e
      exact x3
    · exact k13 b o hb e
  refine kxs_callWith1 N3 mu ?_
  show wpAny _ _ (spliced ((false, eval (.Call (.Name "repr" q4) [.Name "value" q5] [] q6) (ksEnv qual stS s.heap.objs.size fI (.ref cda) cc)) :: backTo q7 (starEach [] (ksEnv qual stS s.heap.objs.size fI (.ref cda) cc)))) _ _ _
  refine Calls.spliced_cons (wpAny_Call_Name_kw (wpAny_Name (ks_loadName_global rfl rfl (Calls.loadGlobal_builtin (env := ksEnv qual stS s.heap.objs.size fI (.ref cda) cc) (hG.keeps k3) T.rep (hB.keeps k3) ((hbb _ (by decide +kernel)).trans (by first | rfl | kernel_rfl)) ?_)) (by decide)))
  refine PyProof.Rows.callWith_builtin1 ?_
  show wpAny _ _ (spliced ((false, eval (.Name "value" q5) (ksEnv qual stS s.heap.objs.size fI (.ref cda) cc)) :: backTo q6 (starEach [] (ksEnv qual stS s.heap.objs.size fI (.ref cda) cc)))) _ _ _
  refine Calls.spliced_cons (wpAny_Name (wpAny_loadName_local rfl rfl F3.ns (show _ = some v from rfl) ?_) (by decide))
  refine Calls.spliced_nil ?_
  refine hrep _ _ _ _ hgd' hu' k3 (fun h₄ tu tk4 k4 => ?_)
  refine Calls.spliced_nil ?_
  have F4 := F3.keeps k4
  have N4 := N3.keepsAll k4
  refine ⟨kxs_at N4 mu, ?_⟩
  refine kxs_call (t := t0) (dv := none) (c2 := .none) F4 X₀ N4 FB TC.ini mu (.tail ux (.tail sx (.head (fun p hp => nomatch hp)))) (by show 1 ≤ sizeLine; rw [sizeLine_eq]; omega) (fun t5 h₅ F5 N5 lt5 => ?_)
  -- self.value = value
  have x5 : h₅.get? x = some (excObj C t5 none .none) := (N5 (x, excObj C t5 none .none) (by simp)).1
  have X5 : K.In h₅ := X₀.keeps F5.keep
  refine wpAt_of_wpAny (wpAny_execs_cons (plainObj_wpAny_Assign_Attribute ?_))
  refine wpAny_Name (wpAny_loadName_local rfl rfl F5.ns (show _ = some v from rfl) (wpAny_Name (wpAny_loadName_local rfl rfl F5.ns (show _ = some (Value.ref x) from rfl) ?_) (by decide))) (by decide)
  refine set_plain X5 (ox := excObj C t5 none .none) (od := none) ⟨x5, rfl, rfl, trivial⟩ TC.oex.sa ?_
  refine HandSPX.exc_osa X5 x5 hcl (show HandSPX.refsVE (.ref C :: bm) = true from hbm) rfl TC.noN (fun h₆ tk₆ dx k₆ dn dne hx₆ hn₆ => ?_)
  have z : s.heap.objs.size < h₅.objs.size := F5.ns.lt
  exact wpAny_execs_nil (hq h₆ tk₆ dx t5 ⟨fun b o hb e => k₆ b o hb (F5.keep b o (keep1 b o e hb)), hx₆, Nat.le_of_lt (Nat.lt_of_lt_of_le z dn), dne, hn₆⟩)
end
end Mz

/-! repr, raise, held errors -/
namespace Mz
open PySem PySem.Spec PyProof.Rows L2
mutual
theorem toP_noDict : ∀ d : D, dat d = true → (toP d).hasDict = false
  | .non, _ => rfl
  | .bl _, _ => rfl
  | .int _, _ => rfl
  | .str _, _ => rfl
  | .tup ds, h => toPs_noDict ds h
  | .lst ds, h => toPs_noDict ds h
  | .arg _, h => by cases h
  | .ref _, h => by cases h
  | .ty _, h => by cases h
  | .edict, h => by cases h
  | .rpr _, h => by cases h
theorem toPs_noDict : ∀ ds : List D, dats ds = true → PyData.hasDictAll (toPs ds) = false
  | [], _ => rfl
  | d :: ds, h => by
    have h : (dat d && dats ds) = true := h
    rw [Bool.and_eq_true] at h
    show ((toP d).hasDict || PyData.hasDictAll (toPs ds)) = false
    rw [toP_noDict d h.1, toPs_noDict ds h.2]; rfl
end
def isEd : D → Bool
  | .edict => true
  | _ => false
/-- what can be shown -/
def shwOK (d : D) : Bool := (isEd d || dat d) && (toP d).showable && decide (dep d ≤ 60) && decide ((toP d).shown.length ≤ sizeLine)
section
variable {X : Cx} {W : WX'} {pins : List (Addr × Obj)} {σ : L2.St} {H : Hp} {s : Shared} {w : Wd} {h : Hc} {d : D} {v : V} {u : Value}
theorem reprTo_reads {P : Program} {wd : World} {h₀ : Heap} {a : Addr} {pd : PyData} {as : List Addr} (r : Reads h₀ (.ref a) pd as) (hs : pd.showable = true) (hsm : pd.hasDict = true → sysModules ∉ as) (hd : pd.depth ≤ 60) (hz : pd.shown.length ≤ sizeLine) : ReprTo P wd h₀ (.ref a) pd.shown :=
  fun A E s Q hg hu hk hq => repr_of_reads' r hs hsm hg (by omega) hk hq hz
theorem repr_ok (I : L2.Inv X pins σ H s) (fx : ∀ a o, w.F a = some o → H a = some o) (r : RV X.K w d v) (rv : RelV v u) (o : shwOK d = true) : ReprTo X.prog X.w s.heap u (toP d).shown := by
  unfold shwOK at o
  simp only [Bool.and_eq_true, decide_eq_true_eq] at o
  obtain ⟨⟨⟨o1, o2⟩, o3⟩, o4⟩ := o
  have dpth : (toP d).depth ≤ 60 := by rw [toP_dep]; exact o3
  have viaDp : ∀ a, dat d = true → u = .ref a → ReprTo X.prog X.w s.heap u (toP d).shown := fun a h1 h2 => by
    subst h2
    obtain ⟨q, _⟩ := RV.dp fx d v h1 r
    obtain ⟨as, rd⟩ := Dp.reads I (toP d) v _ q rv
    exact reprTo_reads rd o2 (fun z => by rw [toP_noDict d h1] at z; cases z) dpth o4
  cases d with
  | non =>
    cases (show v = _ from r)
    cases (show u = _ from rv)
    exact fun A E s Q hg hu hk hq => PySem.P.repr_of_none (hq s.heap _ _ fun _ _ e => e)
  | bl b =>
    cases (show v = _ from r)
    cases (show u = _ from rv)
    exact fun A E s Q hg hu hk hq => PySem.P.repr_of_bool (hq s.heap _ _ fun _ _ e => e)
  | int i =>
    cases (show v = _ from r)
    obtain ⟨t, rfl⟩ := (show ∃ t, u = Value.int i t from rv)
    exact fun A E s Q hg hu hk hq => PySem.P.repr_of_int (of_decide_eq_true o2) (hq s.heap _ _ fun _ _ e => e)
  | str x =>
    obtain ⟨rfl, _⟩ := r
    obtain ⟨t, rfl⟩ := (show ∃ t, u = Value.str (cs x) t from rv)
    exact fun A E s Q hg hu hk hq => PySem.P.repr_of_str (hq s.heap _ _ fun _ _ e => e) o4
  | tup ds =>
    have r' := r
    obtain ⟨a, vs, rfl, _⟩ := r'
    exact viaDp a (by simpa [isEd] using o1) rv
  | lst ds =>
    have r' := r
    obtain ⟨a, vs, rfl, _⟩ := r'
    exact viaDp a (by simpa [isEd] using o1) rv
  | edict =>
    obtain ⟨a, rfl, q⟩ := r
    cases (show u = Value.ref a from rv)
    obtain ⟨_, ns, vs, kv, od, es, ep, e1, e2, e3, e4, e5, e6⟩ := I.hok a _ (fx _ _ q)
    cases kv
    have hes : es.toList = [] := by
      generalize es.toList = l at e5
      cases e5
      rfl
    refine reprTo_reads (Reads.dict (kvs := []) (as := []) (bs := []) e1 e2.1 e3 (by rw [hes]; exact ReadsAll.nil) (by rw [hes]; exact ReadsAll.nil)) rfl (fun _ z => ?_) dpth o4
    have z : sysModules ∈ [a] := z
    rw [← List.mem_singleton.mp z] at ns
    simp at ns
  | arg _ => simp [isEd, dat] at o1
  | ref _ => simp [isEd, dat] at o1
  | ty _ => simp [isEd, dat] at o1
  | rpr _ => simp [isEd, dat] at o1
/-- repr(x) -/
def reprD (_ : Hc) (ds : List D) : Option D := match ds with
  | [d] => if shwOK d then some (.rpr d) else none
  | _ => none
theorem cm_repr (hgd : X.A.guards = some []) (hu : X.A.units + 66 < cLine) : CallM X (.builtin "repr") reprD := by
  intro w h ds d pins s σ H xs us Q e si r I vs k
  unfold reprD at e
  split at e
  · rename_i d0
    split at e
    · rename_i o
      cases e
      obtain ⟨v, rfl, r1⟩ := r.one
      cases vs with
      | cons rv rn =>
        cases rn
        refine repr_ok I si.fx r1 rv o X.A X.xe s _ hgd hu (fun _ _ e => e) fun h' u tk hk => ?_
        exact ⟨.str (toP d0).shown, H, I.kept (t' := tk) hk, ⟨_, rfl⟩, k w H _ w.le_refl si (Keep.refl _ _ _) rfl⟩
    · cases e
  · cases e
def sameR (a b : D) : Bool := decide ((toP a).shown = (toP b).shown)
def eqRD (_ : Hc) (x y : D) : Option D := match x, y with
  | .rpr a, .rpr b => some (.bl (sameR a b))
  | _, _ => none
def neRD (_ : Hc) (x y : D) : Option D := match x, y with
  | .rpr a, .rpr b => some (.bl (!sameR a b))
  | _, _ => none
theorem sameR_eq (a b : D) : decide (V.str (toP a).shown = V.str (toP b).shown) = sameR a b := by
  unfold sameR
  rw [Bool.eq_iff_iff]
  simp
theorem om_eqR : OpM X (compareOp .Eq) eqRD := by
  refine OpM.of op_eq fun w h dx dy d H x y Q e s rx ry k => ?_
  unfold eqRD at e
  split at e
  · cases e
    cases (show x = _ from rx)
    cases (show y = _ from ry)
    exact ⟨rfl, by rw [sameR_eq]; exact k w H _ w.le_refl s (Keep.refl _ _ _) rfl⟩
  · cases e
theorem om_neR : OpM X (compareOp .NotEq) neRD := by
  refine OpM.of op_ne fun w h dx dy d H x y Q e s rx ry k => ?_
  unfold neRD at e
  split at e
  · cases e
    cases (show x = _ from rx)
    cases (show y = _ from ry)
    exact ⟨rfl, by rw [sameR_eq]; exact k w H _ w.le_refl s (Keep.refl _ _ _) rfl⟩
  · cases e

/-! ### an own error is made and raised -/
theorem relO_val {v : V} {v' : Value} (r : RelV v v') (f : Str) : RelO (List.lookup f [(("value" : Str), v)]) (if f = "value" then some v' else none) := by
  by_cases e : f = "value"
  · subst e
    rw [if_pos rfl, show List.lookup ("value" : Str) [(("value" : Str), v)] = some v by simp [List.lookup]]
    exact r
  · rw [if_neg e, show List.lookup f [(("value" : Str), v)] = none by simp [List.lookup, show (f == ("value" : Str)) = false by simpa using e]]
    trivial
/-- C(e), C an own error -/
def tMkSt (X : Cx) (C : Addr) (ta : TA) : L2.St → Hp → XK → Prop := fun σ H Q => ta σ H fun vs H1 => ∃ (v : V) (tx : Str), vs = [v] ∧ (∀ pins s u, L2.Inv X pins σ H1 s → RelV v u → ReprTo X.prog X.w s.heap u tx) ∧
  ∀ d, H1 d = none → Q (.ref C) (some d) (upd H1 d (.xd [(("value" : Str), v)]))
theorem make_guards {A : Around} {C : Addr} {us : List Value} {kw : List (Str × Value)} : (A.under (.builtin "type.__call__" ⟨.ref C :: us, kw⟩)).guards = A.guards := by
  first | rfl | simp [Around.under, Code.isGuard, guardIds]
theorem pmk_st {x : Str} {C S fI : Addr} {bmB : List Value} {e : Expr} {ta : TA} {p pos : Pos} (T : StBase X.K X.mg X.prog S fI) (TC : StCls X.K C S fI bmB) (FB : ExcBaseFacts "ValueError" "ValueError.__new__" "ValueError.__init__" bmB) (gm : X.mg x = some (.ref C))
    (hgd : X.A.guards = some []) (hr : Room 2 X.A) (hg : Gl X x) (ha : PA X [e] ta) (hdb : (x == ("__debug__" : Str)) = false := by decide)
    (he : starEach (e :: []) X.env = (false, eval e X.env) :: starEach [] X.env := by rfl) (hpl : (backTo pos (starEach [] X.env)).any (·.1) = false := by rfl) :
    PMk X (.Call (.Name x p) [e] [] pos) (tMkSt X C ta) := by
  intro pins s σ H Q I h
  obtain ⟨nm, q, N, bs, bm, sn, sub, ab, col, dd, k0, k1, k2, k3, k5, hC, hbm⟩ := TC.oex.cls
  refine wpAny_Call_Name_kw (ld_glob I hg gm ?_ hdb)
  refine PySem.W.callWith_K (h₀ := X.base) I.ok.mod.kin TC.oex.kC (thn (ha.run pos pins s σ H _ I h) fun us s1 ⟨vs, H1, I1, r1, v, tx, ev, hrep, q1⟩ => ⟨I1.kIn, ?_⟩) he hpl
  subst ev
  cases r1 with
  | @cons _ u _ _ ru rn =>
    cases rn
    show wpAny _ _ (call (.ref C) [u]) _ _ _
    have rep := hrep pins s1 u I1 ru
    have hlim := I1.nolimit
    have hM := I1.mod
    have hk := I1.bk
    obtain ⟨mb, hb1, hb2⟩ := hM.blt
    obtain ⟨hp, g, dr, tk, os⟩ := s1
    have kk : ∀ b o, hp.get? b = some o → ((hp.push (PySem.W.kdv_tup [u])).push (HandSPX.excO C hp.objs.size)).get? b = some o := fun b o e => Heap.get?_push_of_some _ (Heap.get?_push_of_some _ e)
    have hget : ((hp.push (PySem.W.kdv_tup [u])).push (HandSPX.excO C hp.objs.size)).get? (hp.objs.size + 1) = some (HandSPX.excO C hp.objs.size) := by heap_get
    have KX : X.K.In hp := I1.kIn
    have hnx : X.K.lookup (hp.objs.size + 1) = none := by
      cases e : X.K.lookup (hp.objs.size + 1) with
      | none => rfl
      | some o => exact absurd (Nat.lt_of_succ_lt (Heap.lt_size (KX _ _ e))) (Nat.lt_irrefl _)
    refine wpAny_call (HandSPX.call_own F.excBase_ValueError (fun Y => HandSPX.refsVE_contains Y bm hbm) (KX _ _ hC) (PySem.W.looks_findIn KX TC.iC) (fun self => PySem.W.bind_fn KX self T.tI) (by show 1 ≤ sizeLine; rw [sizeLine_eq]; omega) ?_)
    have hrm := hr.make C [u] []
    refine st_init (s := ⟨(hp.push (PySem.W.kdv_tup [u])).push (HandSPX.excO C hp.objs.size), g, dr, tk, os⟩) T TC FB (KX.keeps kk) (hlim.keeps kk) ((hM.glob.keeps hk).keeps kk) ((hb1.keeps hk).keeps kk) hb2 hget hnx hrm.depth (by rw [make_guards]; exact hgd)
      (by have := hrm.un; omega) (rep.keeps kk) fun h' tk' dx t1 M => ?_
    refine ⟨rfl, ?_⟩
    show MkP X pins σ Q (.ref (hp.objs.size + 1)) ⟨h', g, dr, tk', os⟩
    have dbig : hp.objs.size ≤ dx := by
      have z := M.dbig
      rw [Heap.size_push, Heap.size_push] at z
      omega
    obtain ⟨G', g1, g2⟩ := restrict h' fun b => decide (b ≠ hp.objs.size + 1)
    have gk : ∀ b, b ≠ hp.objs.size + 1 → G'.get? b = h'.get? b := fun b hb => g1 b (decide_eq_true hb)
    have ge : G'.get? (hp.objs.size + 1) = none := g2 _ (by simp)
    have old : ∀ b o, hp.get? b = some o → G'.get? b = some o := fun b o z => by
      have nb : b ≠ hp.objs.size + 1 := Nat.ne_of_lt (Nat.lt_succ_of_lt (Heap.lt_size z))
      rw [gk b nb]
      exact M.keep b o nb (kk b o z)
    have ob : ObjOk X.prog X.w (upd H1 dx (.xd [(("value" : Str), v)])) G' dx (.xd [(("value" : Str), v)]) := ⟨_, M.ns.at (fun o z => (gk dx M.dne).trans z), fun f => relO_val ru f⟩
    have J : L2.Inv X pins σ (upd H1 dx (.xd [(("value" : Str), v)])) ⟨G', g, dr, tk', os⟩ := I1.laid (t' := tk') old dbig ob
    refine ⟨hp.objs.size + 1, _, _, ⟨G', g, dr, tk', os⟩, _, .ref C, some dx, rfl, J, fun b o z => ?_, ge, M.obj, ⟨rfl, rfl⟩, rfl, rfl, ?_, rfl, I1.bare, raises_own TC.oex.exC TC.oex.tyC, q1 dx (I1.hok.fresh dbig)⟩
    · by_cases hb : b = hp.objs.size + 1
      · have z' : G'.get? b = some o := z
        rw [hb, ge] at z'; cases z'
      · exact (gk b hb).symm.trans z
    · rw [upd_ne (Ne.symm M.dne)]
      exact I1.hok.fresh (Nat.le_succ _)
/-- raise c(e) -/
def raiseS (c : Str) (me : L → M D) : S := bindS me fun d l h => if shwOK d then .exc c d l h else .bad
theorem ms_raise {c : Str} {C S fI : Addr} {bmB : List Value} {e : Expr} {me : L → M D} {p pos pos2 : Pos} (hc : X.calm = true) (tk : Takes X W) (T : StBase X.K X.mg X.prog S fI) (TC : StCls X.K C S fI bmB) (FB : ExcBaseFacts "ValueError" "ValueError.__new__" "ValueError.__init__" bmB)
    (gn : PySem.W.nsIn X.K mainGlobals c = some (some (.ref C))) (gm : X.mg c = some (.ref C)) (hgd : X.A.guards = some []) (hr : Room 2 X.A) (hg : Gl X c) (he : ME X W e me) (hdb : (c == ("__debug__" : Str)) = false := by decide)
    (hst : starEach (e :: []) X.env = (false, eval e X.env) :: starEach [] X.env := by rfl) (hpl : (backTo pos (starEach [] X.env)).any (·.1) = false := by rfl) :
    MS X W (.Raise (some (.Call (.Name c p) [e] [] pos)) none pos2) (raiseS c me) :=
  PS.weak (ps_raise hc tk (pmk_st T TC FB gm hgd hr hg (pa_cons he pa_nil hst) hdb hst hpl)) fun E σ H ⟨w, l, h, s, sl, r⟩ => by
    refine tG_mono (fun x H1 ⟨w1, d, h1, l1, s1, k1, rx, r1⟩ => ?_) (bindS_read s sl r)
    split at r1
    · rename_i o
      refine ⟨x, (toP d).shown, rfl, fun pins s u I rv => repr_ok I s1.fx rx rv o, fun da nd => ?_⟩
      obtain ⟨s2, l2, k2⟩ := s1.fix (.xd [(("value" : Str), x)]) nd
      exact r1 _ _ σ (.ref C) (some da) l2 s2 k2 (sl.le (l1.trans l2)) ⟨gn, da, x, rfl, by show upd w1.F da _ da = _; rw [upd_same], rx.le l2⟩
    · exact r1.elim
end
end Mz

/-! errors that are held -/
namespace Mz
open PySem PySem.Spec PyProof.Rows L2
theorem exV_ok {P : Program} {w : World} {H : Hp} {h : Heap} {a : Addr} {cls : Value} {d : Option Addr} {oe : Obj} {vs : Array Value} (e : h.get? a = some oe) (z : Zc cls d oe) (hd : oe.data = .fields vs) : ObjOk P w H h a (exV a cls d) :=
  ⟨⟨oe, vs, e, z, hd⟩, ⟨oe, e⟩, fun h1 h2 ⟨oe, vs, e, z, hd⟩ k => ⟨oe, vs, k _ e, z, hd⟩⟩
theorem exV_at {P : Program} {w : World} {H : Hp} {h : Heap} {a : Addr} {cls : Value} {d : Option Addr} (hok : HOk P w H h) (e : H a = some (exV a cls d)) : ∃ (oe : Obj) (vs : Array Value), h.get? a = some oe ∧ Zc cls d oe ∧ oe.data = .fields vs := by
  have x : ObjOk P w H h a (.ext fun h => ∃ (oe : Obj) (vs : Array Value), h.get? a = some oe ∧ Zc cls d oe ∧ oe.data = .fields vs) := hok a _ e
  exact x.1
/-- what an own error's class says -/
structure ErrC (K : PySem.W.Frag) (C : Addr) : Prop where
  xf : XfC K C
  no : PySem.W.findIn K (.ref C) "value" = some none
  cl : (PySem.W.clsIn K C).isSome = true
  ha : PySem.W.findIn K (.ref C) "__class__" = some (some (.builtin "object.__class__"))
  hn : PySem.W.specialIn K (.builtin "object.__class__") "__get__" = some (some (.builtin "getset_descriptor.__get__"))
  ht : PySem.W.takesIn K (.builtin "object.__class__") = some true
  hm : PySem.W.mroIn K C (.type "object") = some true
section
variable {X : Cx} {W : WX'} {o : Expr} {mo : L → M D} {pos : Pos}
/-- the names of the error classes that are known -/
def ErrCs (K : PySem.W.Frag) (cs : List Str) : Prop := ∀ c ∈ cs, ∀ C, PySem.W.nsIn K mainGlobals c = some (some (.ref C)) → ErrC K C
def objE (cs : List Str) (h : Hc) (x : D) : Option (Str × D) := match x with
  | .ref n => match h[n]? with
    | some (.err c d) => if cs.contains c then some (c, d) else none
    | _ => none
  | _ => none
theorem objE_ok {K : PySem.W.Frag} {cs : List Str} {w : Wd} {h : Hc} {H : Hp} {x d : D} {c : Str} {v : V} (T : ErrCs K cs) (s : Sim K w h H) (r : RV K w x v) (e : objE cs h x = some (c, d)) :
    ∃ (a C da : Addr) (u : V), v = .ref a ∧ ErrC K C ∧ PySem.W.nsIn K mainGlobals c = some (some (.ref C)) ∧ H a = some (exV a (.ref C) (some da)) ∧ H da = some (.xd [("value", u)]) ∧ RV K w d u := by
  unfold objE at e
  split at e
  · rename_i n
    split at e
    · rename_i c' d' he
      split at e
      · rename_i hc
        cases e
        obtain ⟨a, rfl, q⟩ := r
        obtain ⟨C, da, u, e1, e2, e3, r1⟩ := s.ob _ _ a he q
        exact ⟨a, C, da, u, rfl, T c (by simpa using hc) C e1, e1, e2, s.fx _ _ e3, r1⟩
      · cases e
    · cases e
  · cases e
/-- o.value, o a held error -/
def tHv (K : PySem.W.Frag) (te : TE) : TE := fun σ H Q => te σ H fun x H1 => ∃ (a C da : Addr) (v : V), x = .ref a ∧ ErrC K C ∧ H1 a = some (exV a (.ref C) (some da)) ∧ H1 da = some (.xd [("value", v)]) ∧ Q v H1
theorem pe_hv {e : Expr} {te : TE} (he : PE X e te) (hb : attributeBase e "value" X.env (eval e X.env) = eval e X.env := by rfl) : PE X (.Attribute e "value" pos) (tHv X.K te) := by
  refine ⟨fun pins s σ H Q I h => ?_⟩
  refine attr_of hb (thn (he.run pins s σ H _ I h) fun u s1 hh => ?_)
  obtain ⟨x, H1, I1, rx, a, C, da, v, ex, T, ea, ed, q⟩ := hh
  subst ex
  obtain rfl : u = Value.ref a := rx
  obtain ⟨oe, vs, ha, hz, hd⟩ := exV_at I1.hok ea
  have hx : ObjOk X.prog X.w H1 s1.heap da (.xd [("value", v)]) := I1.hok da _ ed
  obtain ⟨mA, hns, hr⟩ := hx
  obtain ⟨od, ho, hl⟩ := lookIn_ns hns
  have l : List.lookup ("value" : Str) [(("value" : Str), v)] = some v := by simp [List.lookup]
  obtain ⟨u, hu, ru⟩ := RelO.some_of (v := v) (o := mA "value") (by rw [← l]; exact hr "value")
  have J : PySem.W.InstAt s1.heap a oe C (some od) := ⟨ha, hz.1, by unfold PySem.W.notCls; rw [hd], by rw [hz.2]; exact ho⟩
  exact HandSPX.exc_get I1.kIn J T.xf.ga T.xf.gg T.xf.exC (PySem.W.findObj_own T.xf.hdC T.no rfl (by rw [hl, hu])) (handed_of ru) ⟨v, H1, I1.tok _, ru, q⟩
def errV (cs : List Str) (mo : L → M D) : L → M D := fun l => (mo l).bind fun x => rdo fun h => (objE cs h x).map (·.2)
theorem me_errval {cs : List Str} (T : ErrCs X.K cs) (ho : ME X W o mo) (hb : attributeBase o "value" X.env (eval o X.env) = eval o X.env := by rfl) : ME X W (.Attribute o "value" pos) (errV cs mo) :=
  PE.weak (pe_hv ho hb) fun σ H Q ⟨w, l, h, s, sl, r⟩ => by
    refine tG_mono (fun x H1 ⟨w1, dx, h1, l1, s1, k1, rx, r1⟩ => ?_) (tG_bind s sl r)
    obtain ⟨d, e, k⟩ := r1.rdo
    obtain ⟨⟨c, d'⟩, e1, rfl⟩ := Option.map_eq_some_iff.mp e
    obtain ⟨a, C, da, u, rfl, TC, _, q1, q2, r2⟩ := objE_ok T s1 rx e1
    exact ⟨a, C, da, u, rfl, TC, q1, q2, k w1 H1 u w1.le_refl s1 (Keep.refl _ _ _) r2⟩
/-- isinstance(o, c), o a held error of just this class -/
def rIsH (K : PySem.W.Frag) : List V → Hp → VK → Prop := fun xs H Q => ∃ (a C da : Addr), xs = [.ref a, .ref C] ∧ ErrC K C ∧ H a = some (exV a (.ref C) (some da)) ∧ (∃ u, H da = some (.xd [("value", u)])) ∧ Q (.bl true) H
theorem call_isH : CallR X (.builtin "isinstance") (rIsH X.K) := by
  intro pins s σ H xs us Q I r h
  obtain ⟨a, C, da, rfl, T, ea, ⟨w0, ed⟩, q⟩ := h
  cases r with
  | cons rx rr =>
    cases rr with
    | cons rt rr =>
      cases rr
      cases rx
      cases rt
      obtain ⟨oe, vs, ha, hz, hd⟩ := exV_at I.hok ea
      have hx : ObjOk X.prog X.w H s.heap da (.xd [("value", w0)]) := I.hok da _ ed
      obtain ⟨mA, hns, hr⟩ := hx
      obtain ⟨od, ho, hl⟩ := lookIn_ns hns
      have J : PySem.W.InstAt s.heap a oe C (some od) := ⟨ha, hz.1, by unfold PySem.W.notCls; rw [hd], by rw [hz.2]; exact ho⟩
      have e : PySem.W.kitOne X.K (.ref C) (.ref C) = some true := by unfold PySem.W.kitOne; rw [if_pos (by simp)]
      exact PySem.W.kia_one (PySem.W.kitx_exc T.cl T.xf.ga T.xf.gg T.xf.exC T.ha T.hn T.ht T.hm) I.kIn J e (fun z => nomatch z) fun tk => ⟨.bl true, H, I.kept (t' := tk) fun _ _ z => z, rfl, q⟩
def isEV (cs : List Str) (cn : Str) (mo : L → M D) : L → M D := fun l => (mo l).bind fun x => rdo fun h => match objE cs h x with
  | some (c, _) => if c = cn then some (.bl true) else none
  | none => none
theorem me_isE {cs : List Str} {cn : Str} {p p' : Pos} {C' : Addr} (T : ErrCs X.K cs) (gn : PySem.W.nsIn X.K mainGlobals cn = some (some (.ref C'))) (gm : X.mg cn = some (.ref C')) (hgc : Gl X cn) (hg : Gl X "isinstance") (hm : X.mg "isinstance" = none) (ho : ME X W o mo) (hdc : (cn == ("__debug__" : Str)) = false := by decide)
    (he : starEach (o :: [.Name cn p']) X.env = (false, eval o X.env) :: starEach [.Name cn p'] X.env := by rfl) (he2 : starEach [.Name cn p'] X.env = (false, eval (.Name cn p') X.env) :: starEach [] X.env := by rfl) (hpl : (backTo pos (starEach [.Name cn p'] X.env)).any (·.1) = false := by rfl) :
    ME X W (.Call (.Name "isinstance" p) [o, .Name cn p'] [] pos) (isEV cs cn mo) :=
  PE.weak (pe_callB call_isH hg hm (by decide +kernel) (pa_cons ho (pa_cons (pe_glob (v := .ref C') hgc gm rfl hdc) pa_nil he2) he) (by decide) (by decide) he hpl) fun σ H Q ⟨w, l, h, s, sl, r⟩ => by
    refine tG_mono (fun x H1 ⟨w1, dx, h1, l1, s1, k1, rx, r1⟩ => ?_) (tG_bind s sl r)
    obtain ⟨d, e, k⟩ := r1.rdo
    split at e
    · rename_i c d' e1
      split at e
      · rename_i ec
        subst ec
        cases e
        obtain ⟨a, C, da, u, rfl, TC, n1, q1, q2, r2⟩ := objE_ok T s1 rx e1
        rw [gn] at n1
        cases n1
        exact ⟨a, C', da, rfl, TC, q1, ⟨u, q2⟩, k w1 H1 _ w1.le_refl s1 (Keep.refl _ _ _) rfl⟩
      · cases e
    · cases e
end
end Mz

/-! try .. except C as n, the error held behind it -/
namespace Mz
open PySem PySem.Spec PyProof.Rows L2
/-- what the clause wishes: the error stands in the heap of what is known -/
def wKeep (K : PySem.W.Frag) (c : Value) (i : Nat) (ts : Addr → Value → Option Addr → TS) (Wout : WX) (D : Ends) : WX := fun cls d σ H =>
  ∃ b, PySem.W.exmOne K cls c = some b ∧ (b = true → ∀ a, H a = none → ts a cls d { nx := fun σ' H' => D.nx (σ'.set i none) H', rt := D.rt, bk := fun σ' H' => D.bk (σ'.set i none) H', ct := fun σ' H' => D.ct (σ'.set i none) H' } (σ.set i (some (.ref a))) (upd H a (exV a cls d))) ∧
    (b = false → Wout cls d σ H)
theorem suite_in {X : Cx} {pins : List (Addr × Obj)} {σ : L2.St} {H : Hp} {s : Shared} (I : L2.Inv X pins σ H s) (a : Addr) : L2.Inv (X.suite a (X.pn ++ pins)) [] σ H s :=
  ⟨I.ok.suite _ _, I.os, I.bare, I.base, I.loc, I.cell, I.free, I.freeC, fun p hp => I.pin p (by rw [List.append_nil] at hp; exact hp), I.hok, I.len⟩
theorem suite_out {X : Cx} {pins pn' : List (Addr × Obj)} {σ : L2.St} {H : Hp} {s : Shared} {a : Addr} (I : L2.Inv (X.suite a (X.pn ++ pins)) pn' σ H s) (ok : X.Ok) : L2.Inv X pins σ H s :=
  ⟨ok, I.os, I.bare, I.base, I.loc, I.cell, I.free, I.freeC, fun p hp => I.pin p (List.mem_append_left _ hp), I.hok, I.len⟩
section
variable {X : Cx} {x n : Str} {c : Value} {i : Nat} {body suite : List Stmt} {b₀ : Stmt} {np pos pos' : Pos} {tb : WX → TS} {ts : Addr → Value → Option Addr → TS} {Wout : WX}
theorem ps_try_keep (hs : X.stack = X.env :: X.outer) (hf : X.env.frame = some X.env.locals) (hN : X.N.Nodup) (hi : X.N[i]? = some n) (hln : X.env.kindOf n = some .local) (hc : Names X x c) (tk : Takes X Wout)
    (hb : ∀ (W : WX) (pn : List (Addr × Obj)) (xe : Value → Shared → Prop), Takes (X.tr pn xe) W → PassesOwn (model X.prog X.w) X.A X.env xe → PSs (X.tr pn xe) body (tb W))
    (hsu : ∀ (a : Addr) (cls : Value) (d : Option Addr) (pn : List (Addr × Obj)), PSs (X.suite a pn) (b₀ :: suite) (ts a cls d)) :
    PS X (.Try body [.ExceptHandler (some (.Name x np)) (some n) (b₀ :: suite) pos'] [] [] pos) (fun D σ H => tb (wKeep X.K c i ts Wout D) D σ H) := by
  refine ⟨fun pins s σ H D I h => ?_⟩
  have ok := I.ok
  have hfr : X.A.frames = some (X.env :: X.outer) := by rw [ok.frames, hs]
  have hloc : Loc X.env.scope n := .inl hln
  refine wpAny_Try_except ?_
  refine wpAny_mono ((hb (wKeep X.K c i ts Wout D) (X.pn ++ pins) (fun e s₁ => wpAny (model X.prog X.w) X.A (noteFrame e X.env) (fun _ s₂ => wpAny (model X.prog X.w) X.A (setFlight e none) (fun _ s₃ =>
    wpAny (model X.prog X.w) X.A (handleBy e X.env [.ExceptHandler (some (.Name x np)) (some n) (b₀ :: suite) pos']) (SP X pins D) X.xe s₃) X.xe s₂) X.xe s₁) (fun u s' xx => ?_) PassesOwn.looking).run [] s σ H D (I.toTry _) h) (fun f s1 hsp => ?_) (fun e s1 he => he)
  · obtain ⟨a, B, sI, pins', σ', H', cls, d, rfl, J', nb, up, sky, na, os, ag, b, hb1, hyes, hno⟩ := xx
    have J : L2.Inv X pins σ' H' sI := J'.ofTry ok
    have sky' : Sky B (X.env :: X.outer) a (Zc cls d) X.env.locals s'.heap := by rw [← hs]; exact sky
    show wpAny (model X.prog X.w) X.A (noteFrame (.ref a) X.env) _ _ _
    refine Sky.land Zc.steady hfr hf sky' fun h3 fl3 up3 => ?_
    have J3 : L2.Inv X pins σ' H' { s' with heap := h3 } := J.landed nb fl3.1 (up.trans up3) os ag
    obtain ⟨oe3, vs3, he3, hz3, hd3⟩ := fl3.there
    have S3 := suite_in J3 a
    refine wpAny_handleBy_cons (codeAny_handlers_test ?_) (by intro q; cases q)
    have LT : PySem.W.Looks (model X.prog X.w) h3 (typeOf (.ref a)) cls := fun A Q E s k q => wpAny_typeOf_ref (k _ _ he3) (by rw [hz3.1]; exact q)
    have LM := PySem.W.exm_one (M := model X.prog X.w) (J3.kIn) LT hb1
    have test : ∀ {Q : Value → Shared → Prop} {E : Value → Shared → Prop}, Q c { s' with heap := h3 } → wpAny (model X.prog X.w) (X.A.mark (some (.ref a))) (eval (.Name x np) X.env) Q E { s' with heap := h3 } := fun {Q E} q => by
      obtain ⟨hg, hdbg, hm | ⟨hm, hv, hnn⟩⟩ := hc
      · exact ld_glob (X := X.suite a (X.pn ++ pins)) S3 hg hm q hdbg
      · exact ld_blt (X := X.suite a (X.pn ++ pins)) S3 hg hm hv q hnn hdbg
    refine test (LM.here ?_)
    cases b with
    | true =>
      refine codeAny_handlers_suite_as ?_
      refine HandSPX.lands_againZ fl3 fun h4 fl4 up4 => ?_
      obtain ⟨oe4, vs4, he4, hz4, hd4⟩ := fl4.there
      have nfr : a ∉ frs X.stack := fun hm => by
        rw [hs] at hm
        obtain ⟨_, o', e', hnf⟩ := fl4.2.2.1.mem hm
        rw [he4] at e'; cases e'
        exact hnf _ hd4
      -- the heap without the error
      obtain ⟨G, g1, g2⟩ := restrict h4 fun b => decide (b ≠ a)
      have gk : ∀ b, b ≠ a → G.get? b = h4.get? b := fun b hb => g1 b (decide_eq_true hb)
      have ga : G.get? a = none := g2 a (by simp)
      have nI : sI.heap.get? a = none := by
        cases q : sI.heap.get? a with
        | none => rfl
        | some o =>
          have z := nb a o q nfr
          rw [fl4.2.1] at z; cases z
      have stG : B.StaysIn G := fun b o e => by
        rw [gk b (fun z => by rw [z, fl4.2.1] at e; cases e)]
        exact fl4.1 b o e
      have upG : sI.heap.UpToSlots G := fun b o e hnf => by
        rw [gk b (fun z => by rw [z, nI] at e; cases e)]
        exact ((up.trans up3).trans up4) b o e hnf
      have JG : L2.Inv X pins σ' H' { s' with heap := G } := J.landed nb stG upG os ag
      have J4 : L2.Inv X pins σ' (upd H' a (exV a cls d)) { s' with heap := h4 } := JG.laidN (h' := h4) (t' := s'.toks) (fun b u e => by
        have e : G.get? b = some u := e
        rw [← gk b (fun z => by rw [z, ga] at e; cases e)]; exact e) ga na (exV_ok he4 hz4 hd4)
      have S4 := suite_in J4 a
      refine store_ok (X := X.suite a (X.pn ++ pins)) (v := .ref a) S4 hN hi hloc rfl (fun s5 S5 => ?_) (.inr hln)
      refine wpAny_mono ((hsu a cls d (X.pn ++ pins)).run [] s5 _ _ _ S5 (hyes rfl a na)) (fun f s6 hsp => ?_) (fun _ _ z => False.elim z)
      have end_ : ∀ {σ6 : L2.St} {H6 : Hp} {Q : Shared → Prop}, L2.Inv (X.suite a (X.pn ++ pins)) [] σ6 H6 s6 → (∀ s7, L2.Inv X pins (σ6.set i none) H6 s7 → Q s7) →
          wpAny (model X.prog X.w) X.A (do bindName X.env n .none; unbindBehindTheSuite X.env n pos') (fun _ s7 => Q s7) X.xe s6 := fun {σ6 H6 Q} S6 hq => gone_ok (suite_out S6 ok) hN hi hln hq
      match f, hsp with
      | .next, ⟨σ6, H6, S6, q6⟩ => exact end_ S6 fun s7 J7 => ⟨_, _, J7, q6⟩
      | .brk, ⟨σ6, H6, S6, q6⟩ => exact end_ S6 fun s7 J7 => ⟨_, _, J7, q6⟩
      | .cont, ⟨σ6, H6, S6, q6⟩ => exact end_ S6 fun s7 J7 => ⟨_, _, J7, q6⟩
      | .ret u, ⟨v6, σ6, H6, S6, r6, q6⟩ => exact end_ S6 fun s7 J7 => ⟨_, _, _, J7, r6, q6⟩
    | false =>
      show wpAny _ X.A (handleBy (.ref a) X.env []) _ _ _
      refine wpAny_handleBy_nil ?_
      obtain ⟨k1, k2, k3, oe, vs, T, oT, ts', he, hz, hd, h1, hr⟩ := id fl3
      unfold PySem.passOn
      refine wpAny_bind (wpAny_field he hd h1 ?_)
      rw [if_neg (show ¬ ((Value.ref T == Value.none) = true) from by simp)]
      have fin : wpAny (model X.prog X.w) X.A (setFlight (.ref a) X.env.frame) (fun _ s4 => wpAny (model X.prog X.w) X.A (throw (.ref a) : Sem Flow) (SP X pins D) X.xe s4) X.xe { s' with heap := h3 } := by
        rw [hf]
        refine HandSPX.setFlight_upZ fl3 fun h4 hh4 up4 => wpAny_throw (tk _ _ ?_)
        exact ⟨a, B, sI, pins, σ', H', cls, d, rfl, J, nb, (up.trans up3).trans up4, .inr (.inr (by rw [hs]; exact hh4)), na, os, ag, hno rfl⟩
      first
        | exact wpAny_bind (wpAny_pure (wpAny_bind fin))
        | exact wpAny_bind fin
  · match f, hsp with
    | .next, ⟨σ', H', J', q⟩ => exact wpAny_execs_nil ⟨σ', H', J'.ofTry ok, q⟩
    | .brk, ⟨σ', H', J', q⟩ => exact ⟨σ', H', J'.ofTry ok, q⟩
    | .cont, ⟨σ', H', J', q⟩ => exact ⟨σ', H', J'.ofTry ok, q⟩
    | .ret u, ⟨v, σ', H', J', r, q⟩ => exact ⟨v, σ', H', J'.ofTry ok, r, q⟩
end
end Mz

/-! _law_caught(lambda: ..): the error that comes out, or None -/
namespace Mz
open PySem PySem.Spec PyProof.Rows L2 LamX
/-- the table's code objects -/
def TabQ (F : Hp) (q : Str) (ps : Array Value) : Prop := TriplesOk ps.toList ∧ ∀ (pos : Pos) (cv : Value), codeAmong pos ps.toList = some cv → ∃ c, cv = .ref c ∧ F c = some (CodeO c q)
/-- what the making of a lambda does: nothing, or a new code object in the table at P -/
def LamStep (P : Addr) (q : Str) (ps : Array Value) (H H1 : Hp) (c' : Addr) : Prop := (H1 = H ∧ H c' = some (CodeO c' q)) ∨ ∃ more : Array Value, H c' = none ∧ H1 = upd (upd H P (.tbl (ps ++ more))) c' (CodeO c' q) ∧ TriplesOk (ps ++ more).toList ∧
  ∀ (pos : Pos) (cv : Value), codeAmong pos (ps ++ more).toList = some cv → codeAmong pos ps.toList = some cv ∨ cv = .ref c'
section
variable {X : Cx} {pins : List (Addr × Obj)} {σ : L2.St} {H : Hp} {s : Shared}
theorem lam_new {c P : Addr} {ps : Array Value} {params : Arguments} {body : Expr} {scope : Scope} {pos : Pos} {E : Value → Shared → Prop} {Q : Value → Shared → Prop} (I : L2.Inv X pins σ H s) (TB : TabB X.base X.mg c P) (hcode : X.env.code = .ref c)
    (hP : H P = some (.tbl ps)) (tq : TabQ H (X.env.qual ++ "<lambda>") ps) (hdef : defaultsOf params X.env = ([], [])) (hfree : ∀ y ∈ scope.names, y.2 = .free → ∃ c, X.env.cells.lookup y.1 = some c)
    (k : ∀ (f c' : Addr) (pm ctv : Value) (H1 : Hp) (s' : Shared), L2.Inv X pins σ H1 s' → LamStep P (X.env.qual ++ "<lambda>") ps H H1 c' →
      s'.heap.get? f = some (PySem.W.kla_obj "<lambda>" (X.env.qual ++ "<lambda>") params body scope (cloFrom X.env.cells scope.names []) pm c' ctv) → H1 f = none → f ∉ frs X.stack → H1 c' = some (CodeO c' (X.env.qual ++ "<lambda>")) → Q (.ref f) s') :
    wpAny (model X.prog X.w) X.A (eval (.Lambda params body scope pos) X.env) Q E s := by
  obtain ⟨ht, ha⟩ := tq
  refine PySem.W.kla_eval hdef ?_
  have bP : s.heap.BuiltinsAt X.mg P := TB.bm.keeps I.bk
  have gP : s.heap.get? P = some { cls := .none, data := .fields ps } := I.hok P _ hP
  have notFr : ∀ f, s.heap.objs.size ≤ f → f ∉ frs X.stack := fun f hf z => by
    rcases List.mem_cons.mp (I.stkSub _ z) with e | e
    · have h1 := I.lt
      rw [← e] at h1
      exact absurd (Nat.lt_of_lt_of_le h1 hf) (Nat.lt_irrefl _)
    · exact I.nofs hf e
  cases hc : codeAmong pos ps.toList with
  | some cv =>
    obtain ⟨c', rfl, hco⟩ := ha pos cv hc
    refine PySem.W.kla_makeFunctionHit (mg := X.mg) (c := c) (P := P) (ps := ps) (closure_ok hfree) I.ok.glob (I.mod.glob.keeps I.bk) hcode (TB.code.keeps I.bk) gP ht hc bP fun ctv h' tk hx hsz => ?_
    exact k _ c' _ ctv H _ (I.kept fun b o e => Heap.get?_push_of_some _ (hx b o e)) (.inl ⟨rfl, hco⟩) (Heap.get?_push_size _ rfl) (I.hok.fresh hsz) (notFr _ hsz) hco
  | none =>
    refine PySem.W.kla_makeFunction (mg := X.mg) (c := c) (P := P) (ps := ps) (closure_ok hfree) I.ok.glob (I.mod.glob.keeps I.bk) hcode (TB.code.keeps I.bk) gP ht hc TB.gP bP fun c' ctv h' tk hx hge hlt hrec htb => ?_
    obtain ⟨c2, oc, vs, t, e2, hoc, hd, hv⟩ := hrec
    cases e2
    have hsz : s.heap.objs.size ≤ h'.objs.size := Nat.le_trans hge (Nat.le_of_lt hlt)
    have nC : H c' = none := I.hok.fresh hge
    have eL : (ps ++ #[rawInt pos.line, rawInt pos.col, .ref c']).toList = ps.toList ++ [rawInt pos.line, rawInt pos.col, .ref c'] := by simp
    refine k h'.objs.size c' _ ctv _ _ (inv_table (t' := tk) (more := #[rawInt pos.line, rawInt pos.col, .ref c']) I hP (fun b o hb e => Heap.get?_push_of_some _ (hx b o hb e)) (Heap.get?_push_of_some _ htb) hge ⟨oc, vs, t, Heap.get?_push_of_some _ hoc, hd, hv⟩)
      (.inr ⟨_, nC, rfl, by rw [eL]; exact PySem.TriplesOk_snoc _ _ _ _ ht, fun p' cv e => by rw [eL] at e; exact among_app _ ht e⟩) (Heap.get?_push_size _ rfl) ?_ (notFr _ hsz) upd_same
    have n2 : h'.objs.size ≠ P := Nat.ne_of_gt (Nat.lt_of_lt_of_le (Heap.lt_size gP) hsz)
    rw [upd_ne (Nat.ne_of_gt hlt), upd_ne n2]
    exact I.hok.fresh hsz
/-- a(), a the lambda that a def got: Z is that def's context, entered at s -/
theorem pe_ask {CXg : CXT} {Eg : XK} {Ng : List Str} {qg : Str} {sg : Scope} {g f c' : Addr} {cdg pm ctv : Value} {params : Arguments} {body : Expr} {scope : Scope} {k i : Nat} {a : Str} {pn : List (Addr × Obj)} {xe : Value → Shared → Prop} {W : WX} {t : XK → TE} {p1 p2 : Pos}
    (I : L2.Inv X pins σ H s) (L : LamS X.env.scope scope) (hf : s.heap.get? f = some (PySem.W.kla_obj "<lambda>" (X.env.qual ++ "<lambda>") params body scope (cloFrom X.env.cells scope.names []) pm c' ctv)) (hfn : H f = none) (hfr : f ∉ frs X.stack)
    (hbind : bindArgs (PySem.W.kla_fn "<lambda>" (X.env.qual ++ "<lambda>") params body scope (cloFrom X.env.cells scope.names []) pm (.ref c') ctv) ⟨[], []⟩ = pure [])
    (tk : Takes ((cxOf CXg X.prog X.w X.K X.mg X.base Ng qg sg g cdg X.A X.stack s H Eg).tr pn xe) W) (hgd : X.A.guards = some []) (hr : Room (k + 1) (X.A.deeper (envOfC qg sg s.heap.objs.size g cdg)))
    (hbody : ∀ (E : XK) (A : Around) (outer : List Env) (s : Shared) (H : Hp), A.guards = some [] → Room k (A.deeper (lamEnv X scope s.heap.objs.size f c')) → PE (lamCx X A outer s H E scope f c') body (t E))
    (hN : Ng[i]? = some a) (hv : Vis sg a) (hd : (a == ("__debug__" : Str)) = false := by decide) (hcd : (a == ("__classdict__" : Str)) = false := by decide) :
    PE ((cxOf CXg X.prog X.w X.K X.mg X.base Ng qg sg g cdg X.A X.stack s H Eg).tr pn xe) (.Call (.Name a p1) [] [] p2)
      (fun σZ HZ Q => σZ[i]? = some (some (.ref f)) ∧ HZ c' = some (CodeO c' (X.env.qual ++ "<lambda>")) ∧ t (WE W σZ) σ HZ Q) := by
  refine ⟨fun pinsZ sZ σZ HZ Q IZ ⟨hs, hc, hq⟩ => ?_⟩
  refine wpAny_Call_Name_kw (thn ((pe_var (pos := p1) (i := i) hN hv hd hcd).run pinsZ sZ σZ HZ (fun v H1 => v = .ref f ∧ H1 = HZ) IZ ⟨.ref f, hs, rfl, rfl⟩) fun u s1 ⟨v, H1, I1, r1, ev, eH⟩ => ?_)
  subst ev
  rw [eH] at I1
  obtain rfl : u = Value.ref f := r1
  have of1 : s1.heap.get? f = some (PySem.W.kla_obj "<lambda>" (X.env.qual ++ "<lambda>") params body scope (cloFrom X.env.cells scope.names []) pm c' ctv) := I1.base.keep f _ hf hfn hfr (fun z => nomatch (show f ∈ ([] : List Addr) from z))
  refine PySem.W.callWith_F0 ⟨_, _, _, _, of1⟩ ?_
  obtain ⟨⟨oc, vs, tt, hoc, hdc, hvc⟩, _, _⟩ := I1.hok c' _ hc
  have go : codeAny (model X.prog X.w) (X.A.deeper (envOfC qg sg s.heap.objs.size g cdg)) (.call (.ref f) ⟨[], []⟩) (CR (L2.CX X.prog X.w) (envOfC qg sg s.heap.objs.size g cdg :: X.stack) X.prog X.w HZ s1 Q (WE W σZ)) s1 := by
    refine PySem.W.kla_callFunE hr.depth of1 rfl L.co L.gen rfl ⟨c', oc, vs, tt, rfl, hoc, hdc, hvc⟩ ?_
    rw [hbind]
    refine wpAny_pure (wpAny_newFunctionEnv (fun y hy => (L.own y hy).2) (fun y hy => absurd hy (by simp)) (fun h₁ hns hsb => ⟨I1.nolimit.fresh _ hsb, ?_⟩) L.kind)
    show codeAny _ _ (.expr body (lamEnv X scope s1.heap.objs.size f c')) _ _
    have kp : ∀ b o, s1.heap.get? b = some o → h₁.get? b = some o := fun b o e => hsb.extBut b o (Nat.ne_of_lt (Heap.lt_size e)) (Heap.get?_push_of_some _ e)
    have J : L2.Inv (lamCx X (X.A.deeper (envOfC qg sg s.heap.objs.size g cdg)) (envOfC qg sg s.heap.objs.size g cdg :: X.stack) s1 HZ (WE W σZ) scope f c') [] σ HZ { s1 with heap := h₁, toks := s1.toks + ([] : List (Str × Value)).length } :=
      lam_start2 I L I1.env0 hr.hd I1.base hns kp
    refine PySem.W.kla_codeExpr (wpAny_mono ((hbody (WE W σZ) (X.A.deeper (envOfC qg sg s.heap.objs.size g cdg)) _ s1 HZ hgd (hr.deeper _)).run [] _ _ HZ Q J hq) (fun v s' hq' => ?_) fun e s' hq' => hq')
    obtain ⟨w', H', J', rv, q'⟩ := hq'
    exact ⟨w', H', J'.os, J'.bare, J'.base, J'.hok, rv, q'⟩
  refine wpAny_call (codeAny_mono go fun r s' hq' => ?_)
  match r, hq' with
  | .error e, hq' => exact passAt tk σZ pinsZ HZ s1 e s' I1 hq'
  | .ok (.ret u), hq' => exact I1.after hq'
  | .ok .next, hq' => exact hq'.elim
  | .ok .brk, hq' => exact hq'.elim
  | .ok .cont, hq' => exact hq'.elim

/-- what _law_caught makes of what comes out -/
def eCatch (K : PySem.W.Frag) (CS : Addr) (Q : VK) : XK := fun cls d H' => ∃ b, PySem.W.exmOne K cls (.ref CS) = some b ∧ (b = true → ∀ a, H' a = none → Q (.ref a) (upd H' a (exV a cls d))) ∧ (b = false → False)
def tCaught (K : PySem.W.Frag) (CS P : Addr) (q : Str) (t : XK → TE) : TE := fun σ H Q => ∃ ps, H P = some (.tbl ps) ∧ TabQ H q ps ∧ ∀ H1 c', LamStep P q ps H H1 c' → t (eCatch K CS Q) σ H1 fun _ H' => Q .non H'
/-- the text of _law_caught -/
def caughtB (q1 q2 q3 q4 q5 q6 q7 q8 q9 q10 q11 q12 q13 q14 : Pos) (j : Nat) : List Stmt :=
  [.Assign [.Name "_law_caught_here" q1] (.Constant .none j q2) q3,
   .Try [.Expr (.Call (.Name "_law_ask" q4) [] [] q5) q6] [.ExceptHandler (some (.Name "StillError" q7)) (some "error") [.Assign [.Name "_law_caught_here" q8] (.Name "error" q9) q10] q11] [] [] q12,
   .Return (some (.Name "_law_caught_here" q13)) q14]
theorem pe_caught {c P g CS : Addr} {k : Nat} {fdg : FuncData} {st : Stmt} {params : Arguments} {body : Expr} {scope : Scope} {t : XK → TE} {p lpos pos : Pos} {q1 q2 q3 q4 q5 q6 q7 q8 q9 q10 q11 q12 q13 q14 : Pos} {j : Nat}
    (hmono : ∀ (E E' : XK) (σ : L2.St) (H : Hp) (Q Q' : VK), (∀ cls d H', E cls d H' → E' cls d H') → (∀ v H', Q v H' → Q' v H') → t E σ H Q → t E' σ H Q')
    (hg : Gl X "_law_caught") (hm : X.mg "_law_caught" = some (.ref g)) (F : Fun X.K "_law_caught" "_law_caught" st g fdg) (hb : L2.Binds X.K fdg ["_law_ask"] []) (Sg : FnScope ["_law_ask", "_law_caught_here", "error"] ["_law_ask"] (defScope st))
    (hbg : defBody st = caughtB q1 q2 q3 q4 q5 q6 q7 q8 q9 q10 q11 q12 q13 q14 j) (l0 : (defScope st).names.lookup ("_law_ask" : Str) = some .local) (l1 : (defScope st).names.lookup ("_law_caught_here" : Str) = some .local) (l2 : (defScope st).names.lookup ("error" : Str) = some .local)
    (gS : (defScope st).names.lookup ("StillError" : Str) = some .globalImplicit) (mS : X.mg "StillError" = some (.ref CS))
    (TB : TabB X.base X.mg c P) (hcode : X.env.code = .ref c) (hgd : X.A.guards = some []) (hr : Room (k + 2) X.A) (Ls : LamS X.env.scope scope) (hdef : defaultsOf params X.env = ([], []))
    (hbind : ∀ (q : Str) (cl : List (Str × Addr)) (pm cv ctv : Value), bindArgs (PySem.W.kla_fn "<lambda>" q params body scope cl pm cv ctv) ⟨[], []⟩ = pure [])
    (hbody : ∀ (E : XK) (A : Around) (outer : List Env) (s : Shared) (H : Hp) (f c' : Addr), A.guards = some [] → Room k (A.deeper (lamEnv X scope s.heap.objs.size f c')) → PE (lamCx X A outer s H E scope f c') body (t E)) :
    PE X (.Call (.Name "_law_caught" p) [.Lambda params body scope lpos] [] pos) (tCaught X.K CS P (X.env.qual ++ "<lambda>") t) := by
  refine ⟨fun pins s σ H Q I ⟨ps, hP, tq, hq⟩ => ?_⟩
  refine wpAny_Call_Name_kw (ld_glob I hg hm ?_ (by decide))
  refine PySem.W.callWith_K (h₀ := X.base) I.ok.mod.kin F.kp ?_ (by rfl) (by rfl)
  show wpAny _ _ (spliced ((false, eval (.Lambda params body scope lpos) X.env) :: backTo pos (starEach [] X.env))) _ _ s
  refine Calls.spliced_cons (lam_new I TB hcode hP tq hdef (Ls.has I.ok) fun f c' pm ctv H1 s' I1 step hf hfn hfr hco => ?_)
  refine Calls.spliced_nil ⟨I1.kIn, ?_⟩
  have hq1 := hq H1 c' step
  obtain ⟨oc, od, kV, doc, pmg, an, cdv, ct, osl, rfl, lk, hcd⟩ := F.ex
  have rc : codeAny (model X.prog X.w) X.A (.call (.ref g) ⟨[.ref f], []⟩) (CR CX0 X.stack X.prog X.w H1 s' Q E0) s' := by
    refine run_ofS (N := ["_law_ask", "_law_caught_here", "error"]) (ps := ["_law_ask"]) (us := [.ref f]) (vs := [.ref f]) lk hcd Sg hr I1.env0 (hb s' [.ref f] I1.kIn rfl) (.cons rfl .nil) rfl fun hr' => ?_
    rw [hbg]
    let Z : Cx := (cxOf CX0 X.prog X.w X.K X.mg X.base ["_law_ask", "_law_caught_here", "error"] "_law_caught" (defScope st) g cdv X.A X.stack s' H1 E0).nox
    have body' : PSs Z (caughtB q1 q2 q3 q4 q5 q6 q7 q8 q9 q10 q11 q12 q13 q14 j) _ :=
      pss_cons (ps_set (i := 1) Sg.nd rfl (Or.inl l1) pe_non rfl (.inr l1))
        (pss_cons (ps_try_keep (X := Z) (i := 2) (c := .ref CS) (Wout := fun _ _ _ _ => False)
            (tb := fun W D σZ HZ => σZ[0]? = some (some (V.ref f)) ∧ HZ c' = some (CodeO c' (X.env.qual ++ "<lambda>")) ∧ t (WE W σZ) σ HZ fun _ H' => D.nx σZ H')
            (ts := fun _ _ _ => _) rfl rfl Sg.nd rfl l2 ⟨gS, by decide, .inl mS⟩ LamX.takes0
            (fun W pn xe tk _ => pss_one (ps_expr (pe_ask (CXg := CX0) (Eg := E0) (i := 0) I1 Ls hf hfn hfr (hbind _ _ _ _ _) tk hgd hr' (fun E A outer s H hgd hr2 => hbody E A outer s H f c' hgd hr2) rfl (Or.inl l0)) rfl))
            (fun a cls d pn => pss_one (ps_set (i := 1) Sg.nd rfl (Or.inl l1) (pe_var (i := 2) rfl (Or.inl l2)) rfl (.inr l1))))
          (pss_one (ps_ret (pe_var (i := 1) rfl (Or.inl l1)))))
    refine ⟨_, body'.nox, ?_⟩
    show ([some (V.ref f), some V.non, none] : L2.St)[0]? = some (some (V.ref f)) ∧ _ ∧ _
    refine ⟨rfl, hco, hmono _ _ σ H1 _ _ (fun cls d H' ⟨b, e1, e2, e3⟩ => ⟨b, e1, fun hb a na => ⟨.ref a, rfl, .ref a, rfl, e2 hb a na⟩, e3⟩) (fun v H' q => ⟨.non, rfl, q⟩) hq1⟩
  refine wpAny_call (codeAny_mono rc fun r s2 hq => ?_)
  match r, hq with
  | .error e, hq => exact (show False from hq).elim
  | .ok (.ret u), hq => exact I1.after hq
  | .ok .next, hq => exact hq.elim
  | .ok .brk, hq => exact hq.elim
  | .ok .cont, hq => exact hq.elim
end
end Mz

namespace Mz
open PySem PySem.Spec PyProof.Rows L2 LamX
def isTab (h : Hc) (n : Nat) (x q : Str) : Bool := match h[n]? with
  | some (.tab x' q') => decide (x' = x) && decide (q' = q)
  | _ => false
theorem isTab_ok {h : Hc} {n : Nat} {x q : Str} (e : isTab h n x q = true) : h[n]? = some (.tab x q) := by
  unfold isTab at e
  split at e
  · rename_i x' q' he
    simp only [Bool.and_eq_true, decide_eq_true_eq] at e
    rw [he, e.1, e.2]
  · cases e
/-- _law_caught(lambda: b): the table n of the def x is written, perhaps -/
def caughtV (n : Nat) (x q : Str) (cs : List Str) (mb : L → M D) : L → M D := fun l h => if isTab h n x q then match mb l h with
    | .ok _ h' => .ok .non h'
    | .exc c d h' => if cs.contains c then .ok (.ref h'.length) (h' ++ [.err c d]) else .bad
    | .bad => .bad
  else .bad
/-- what the text says of _law_caught -/
structure Cgt (K : PySem.W.Frag) (mg : Str → Option Value) (CS : Addr) : Prop where
  ex : ∃ (g : Addr) (fdg : FuncData) (st : Stmt) (q1 q2 q3 q4 q5 q6 q7 q8 q9 q10 q11 q12 q13 q14 : Pos) (j : Nat), mg "_law_caught" = some (.ref g) ∧ Fun K "_law_caught" "_law_caught" st g fdg ∧ L2.Binds K fdg ["_law_ask"] [] ∧
    FnScope ["_law_ask", "_law_caught_here", "error"] ["_law_ask"] (defScope st) ∧ defBody st = caughtB q1 q2 q3 q4 q5 q6 q7 q8 q9 q10 q11 q12 q13 q14 j ∧ (defScope st).names.lookup ("_law_ask" : Str) = some .local ∧ (defScope st).names.lookup ("_law_caught_here" : Str) = some .local ∧
    (defScope st).names.lookup ("error" : Str) = some .local ∧ (defScope st).names.lookup ("StillError" : Str) = some .globalImplicit
  st : mg "StillError" = some (.ref CS)
/-- the errors that it catches -/
def Catches (K : PySem.W.Frag) (CS : Addr) (cs : List Str) : Prop := ∀ c ∈ cs, ∃ C, PySem.W.nsIn K mainGlobals c = some (some (.ref C)) ∧ PySem.W.exmOne K (.ref C) (.ref CS) = some true
section
variable {X : Cx} {W : WX'}
theorem lamStep_sim {K : PySem.W.Frag} {w : Wd} {h : Hc} {H H1 : Hp} {n : Nat} {x q : Str} {P c' : Addr} {ps : Array Value} (s : Sim K w h H) (hn : h[n]? = some (.tab x q)) (hρ : w.ρ[n]? = some P) (hP : H P = some (.tbl ps))
    (ob : OR K w H P (.tab x q)) (st : LamStep P q ps H H1 c') : ∃ w1, w.le w1 ∧ Sim K w1 h H1 ∧ Keep w h H w1 h H1 := by
  rcases st with ⟨rfl, _⟩ | ⟨more, nc, rfl, tri, among⟩
  · exact ⟨w, w.le_refl, s, Keep.refl _ _ _⟩
  · obtain ⟨s1, l1, k1⟩ := s.fix (CodeO c' q) nc
    have ne : P ≠ c' := ne_of_none hP nc
    obtain ⟨c0, ps0, e1, e2, e3, e4⟩ := ob
    rw [hP] at e2
    cases e2
    obtain ⟨s2, k2⟩ := s1.write (i := n) (a := P) (o := .tbl (ps ++ more)) (ob' := .tab x q) hn rfl hρ rfl ⟨c0, ps ++ more, e1, upd_same, tri, fun pos cv e => by
      rcases among pos cv e with z | z
      · obtain ⟨c1, z1, z2⟩ := e4 pos cv z
        exact ⟨c1, z1, l1.2 _ _ z2⟩
      · exact ⟨c', z, by show upd w.F c' _ c' = _; rw [upd_same]⟩⟩
    have eh : h.set n (.tab x q) = h := by
      apply List.ext_getElem?
      intro i
      by_cases hi : i = n
      · subst hi
        rw [List.getElem?_set_self (List.getElem?_eq_some_iff.mp hn).1, hn]
      · rw [List.getElem?_set_ne (Ne.symm hi)]
    have eu : upd (upd H c' (CodeO c' q)) P (.tbl (ps ++ more)) = upd (upd H P (.tbl (ps ++ more))) c' (CodeO c' q) := by
      funext b
      by_cases h1 : b = P
      · subst h1
        rw [upd_same, upd_ne ne, upd_same]
      · rw [upd_ne h1]
        by_cases h2 : b = c'
        · subst h2
          rw [upd_same, upd_same]
        · rw [upd_ne h2, upd_ne h2, upd_ne h1]
    rw [eh, eu] at s2 k2
    exact ⟨_, l1, s2, k1.trans k2⟩
theorem me_caught {n : Nat} {x q : Str} {cs : List Str} {CS c P : Addr} {k : Nat} {params : Arguments} {body : Expr} {scope : Scope} {mb : L → M D} {p lpos pos : Pos} (G : Cgt X.K X.mg CS) (cat : Catches X.K CS cs) (ti : PySem.W.tabIn X.K x = some (c, P)) (TB : TabB X.base X.mg c P) (hcode : X.env.code = .ref c)
    (hq : X.env.qual ++ "<lambda>" = q) (hgd : X.A.guards = some []) (hr : Room (k + 2) X.A) (hg : Gl X "_law_caught") (Ls : LamS X.env.scope scope) (hdef : defaultsOf params X.env = ([], []))
    (hbind : ∀ (q : Str) (cl : List (Str × Addr)) (pm cv ctv : Value), bindArgs (PySem.W.kla_fn "<lambda>" q params body scope cl pm cv ctv) ⟨[], []⟩ = pure [])
    (hbody : ∀ (E : XK) (A : Around) (outer : List Env) (s : Shared) (H : Hp) (f c' : Addr), A.guards = some [] → Room k (A.deeper (lamEnv X scope s.heap.objs.size f c')) → ME (lamCx X A outer s H E scope f c') (fun cls d _ H => E cls d H) body mb) :
    ME X W (.Call (.Name "_law_caught" p) [.Lambda params body scope lpos] [] pos) (caughtV n x q cs mb) := by
  obtain ⟨g, fdg, st, q1, q2, q3, q4, q5, q6, q7, q8, q9, q10, q11, q12, q13, q14, j, hm, F, hb, Sg, hbg, l0, l1, l2, gS⟩ := G.ex
  refine PE.weak (pe_caught (t := fun E => tG X.K X.mg (fun cls d _ H => E cls d H) (RV X.K) mb) (fun E E' σ H Q Q' hE hQ t => ?_) hg hm F hb Sg hbg l0 l1 l2 gS G.st TB hcode hgd hr Ls hdef hbind hbody) fun σ H Q ⟨w, l, h, s, sl, r⟩ => ?_
  · obtain ⟨w, l, h, s, sl, r⟩ := t
    refine ⟨w, l, h, s, sl, ?_⟩
    cases e : mb l h with
    | ok d h' => rw [e] at r; exact fun w2 H' v l2 s k q' => hQ _ _ (r w2 H' v l2 s k q')
    | exc c d h' => rw [e] at r; exact fun w2 H' cls dd l2 s k q' => hE _ _ _ (r w2 H' cls dd l2 s k q')
    | bad => rw [e] at r; exact r
  · unfold caughtV at r
    split at r
    · rename_i ht
      have hn := isTab_ok ht
      obtain ⟨P', hρ⟩ : ∃ P', w.ρ[n]? = some P' := by
        have hlt : n < w.ρ.length := by rw [s.len]; exact (List.getElem?_eq_some_iff.mp hn).1
        exact ⟨_, List.getElem?_eq_getElem hlt⟩
      have ob := s.ob n _ P' hn hρ
      obtain ⟨c0, ps, e1, e2, e3, e4⟩ := id ob
      rw [ti] at e1
      cases e1
      refine ⟨ps, e2, ⟨e3, fun pos cv e => ?_⟩, fun H1 c' step => ?_⟩
      · obtain ⟨c1, z1, z2⟩ := e4 pos cv e
        rw [hq]
        exact ⟨c1, z1, s.fx _ _ z2⟩
      · rw [hq] at step
        obtain ⟨w1, le1, s1, k1⟩ := lamStep_sim s hn hρ e2 ob step
        refine ⟨w1, l, h, s1, sl.le le1, ?_⟩
        cases e : mb l h with
        | ok d h' =>
          simp only [e] at r
          exact fun w' H' v l2 s2 k2 _ => r w' H' .non (le1.trans l2) s2 (k1.trans k2) rfl
        | exc cn d h' =>
          simp only [e] at r
          split at r
          · rename_i hc
            obtain ⟨C, hC, hx⟩ := cat cn (by simpa using hc)
            intro w' H' cls dd l2 s2 k2 xv
            obtain ⟨n1, da, v, rfl, f1, rv⟩ := xv
            rw [hC] at n1
            cases n1
            refine ⟨true, hx, fun _ a na => ?_, fun z => by cases z⟩
            have lx : w'.le ⟨w'.ρ ++ [a], w'.F⟩ := ⟨⟨[a], rfl⟩, fun _ _ e => e⟩
            obtain ⟨s3, l3, k3, e3⟩ := s2.new (p := a) (o := exV a (.ref C) (some da)) (ob := .err cn d) na ⟨C, da, v, hC, upd_same, f1, rv.le lx⟩
            exact r _ _ (.ref a) ((le1.trans l2).trans l3) s3 ((k1.trans k2).trans k3) ⟨a, rfl, e3⟩
          · exact r.elim
        | bad => simp only [e] at r; exact r.elim
    · exact r.elim
end
/-- the def's own code object -/
theorem code_of {K : PySem.W.Frag} {x qual : Str} {st : Stmt} {f c P : Addr} {fd : FuncData} (F : Fun K x qual st f fd) (hn : PySem.W.nsIn K mainGlobals x = some (some (.ref f))) (ti : PySem.W.tabIn K x = some (c, P)) : fd.code = .ref c := by
  obtain ⟨oc, od, kV, doc, pm, an, cdv, ct, osl, rfl, lk, hcd⟩ := F.ex
  unfold PySem.W.tabIn at ti
  rw [hn] at ti
  simp only [lk] at ti
  show cdv = .ref c
  cases cdv with
  | ref c0 =>
    dsimp only at ti
    split at ti
    · split at ti
      · cases ti; rfl
      · cases ti
    · cases ti
  | _ => cases ti
/-- a def that makes lambdas -/
theorem fng0_makeL {P : Program} {w : World} {K : PySem.W.Frag} {mg : Str → Option Value} {base : Heap} {x qual : Str} {st : Stmt} {f c Pt : Addr} {fd : FuncData} {N ps : List Str} {k n nn : Nat} {m : S} (F : Fun K x qual st f fd) (hns : PySem.W.nsIn K mainGlobals x = some (some (.ref f))) (ti : PySem.W.tabIn K x = some (c, Pt)) (Sc : FnScope N ps (defScope st))
    (hn : ps.length = n) (hnn : N.length = nn)
    (hbody : ∀ (A : Around) (outer : List Env) (s : Shared) (H : Hp) (E : XK), A.guards = some [] → Room k (A.deeper (PyProof.Rows.envOfC qual (defScope st) s.heap.objs.size f (.ref c))) →
      MSs (cxOf CX0 P w K mg base N qual (defScope st) f (.ref c) A outer s H E).nox W0 (defBody st) m) : FnG P w K mg base CX0 (k + 1) f fd ps (spM0 K n (bodyM n nn m)) := by
  subst hn hnn
  have hc := code_of F hns ti
  obtain ⟨oc, od, kV, doc, pm, an, cdv, ct, osl, rfl, lk, hcd⟩ := F.ex
  cases (show cdv = .ref c from hc)
  refine ⟨fun vs H Q E ⟨w, h, ds, e, s, r, _⟩ => by rw [r.length, e], fun A outer s H args us vs Q E hgd hr e0 hb r ⟨w1, h, ds, e, si, rv, q⟩ => run_ofS lk hcd Sc hr e0 hb r (by rw [rv.length, e]) fun hr' => ?_⟩
  refine ⟨_, PSs.nox (hbody A outer s H E hgd hr'), w1, ds.map some ++ List.replicate (N.length - ds.length) none, h, si, SimL.start rv N, ?_⟩
  unfold bodyM at q
  rw [if_pos e, ← e] at q
  show ResS K mg w1 h H W0 _ _
  cases eb : m (ds.map some ++ List.replicate (N.length - ds.length) none) h with
  | bad => simp only [eb] at q
  | exc c d l h' => simp only [eb] at q
  | ok fl h' =>
    cases fl with
    | nx l => simp only [eb] at q; exact fun w' H' σ' l2 s2 k2 _ => q w' H' .non l2 s2 k2 rfl
    | rt d => simp only [eb] at q; exact q
    | bk l => simp only [eb] at q
    | ct l => simp only [eb] at q
theorem Fn0G.makeL {P : Program} {w : World} {K : PySem.W.Frag} {mg : Str → Option Value} {base : Heap} {x qual : Str} {st : Stmt} {f c Pt : Addr} {fd : FuncData} {N ps : List Str} {k n nn : Nat} {m : S} (F : Fun K x qual st f fd) (hm : mg x = some (.ref f)) (hns : PySem.W.nsIn K mainGlobals x = some (some (.ref f))) (ti : PySem.W.tabIn K x = some (c, Pt)) (Sc : FnScope N ps (defScope st)) (b : L2.Binds K fd ps [])
    (hn : ps.length = n) (hnn : N.length = nn)
    (hbody : ∀ (A : Around) (outer : List Env) (s : Shared) (H : Hp) (E : XK), A.guards = some [] → Room k (A.deeper (PyProof.Rows.envOfC qual (defScope st) s.heap.objs.size f (.ref c))) →
      MSs (cxOf CX0 P w K mg base N qual (defScope st) f (.ref c) A outer s H E).nox W0 (defBody st) m) : Fn0G P w K mg base (k + 1) x (bodyM n nn m) :=
  ⟨f, fd, ps, n, fng0_makeL F hns ti Sc hn hnn hbody, hm, F.kp, b, fun ds h e => by unfold bodyM; rw [if_neg e]⟩
end Mz

/-! the end of a law row whose defs make lambdas -/
namespace Mz
open PySem PySem.Spec PyProof.Rows L2 LamX
theorem room66 {k : Nat} {A : Around} (hr : Room k A) : A.units + 66 < cLine := by have := hr.un; omega
/-- the mirror's first heap: the tables -/
def tabsH (xs : List (Str × Str)) : Hc := xs.map fun x => .tab x.1 x.2
theorem sp_ofT {K : PySem.W.Frag} {m : List D → M D} {H : Hp} {a : Addr} {ns : List Int} {n : Nat} {cs : List (Addr × Addr)} {xs : List (Str × Str)} (hn : n ≤ 1000) (hl : ns.length ≤ n) (e : xs.map (fun x => PySem.W.tabIn K x.1) = cs.map some) (nd : (cs.map (·.2)).Nodup)
    (hT : ∀ p ∈ cs, H p.2 = some (.tbl #[])) (hna : ∀ p ∈ cs, p.2 ≠ a) (q : SqL K H a (ns.map V.int)) (pl : ∃ h', m [.arg (ns.map D.int)] (tabsH xs) = .ok (.bl true) h') : spM0 K 1 m [.ref a] H (fun v _ => v = .bl true) fun _ _ _ => False := by
  obtain ⟨h', pl⟩ := pl
  have hlen : xs.length = cs.length := by simpa using congrArg List.length e
  have at_ : ∀ (i : Nat) (o : O) (b : Addr), (tabsH xs)[i]? = some o → (cs.map (·.2))[i]? = some b → ∃ x c, xs[i]? = some x ∧ o = .tab x.1 x.2 ∧ cs[i]? = some (c, b) ∧ PySem.W.tabIn K x.1 = some (c, b) := fun i o b e1 e2 => by
    unfold tabsH at e1
    rw [List.getElem?_map] at e1 e2
    obtain ⟨x, x1, x2⟩ := Option.map_eq_some_iff.mp e1
    obtain ⟨p, p1, p2⟩ := Option.map_eq_some_iff.mp e2
    refine ⟨x, p.1, x1, x2.symm, by rw [p1, ← p2], ?_⟩
    have z := congrArg (fun l => l[i]?) e
    simp only [List.getElem?_map, x1, p1, Option.map_some] at z
    rw [Option.some.inj z, ← p2]
  refine ⟨⟨cs.map (·.2), fun b => if b ∈ cs.map (·.2) then none else H b⟩, tabsH xs, [.arg (ns.map D.int)], rfl, ⟨by simp [tabsH, hlen], fun b o z => ?_, fun i o b e1 e2 => ?_, fun i o b e1 e2 _ => ?_, fun i j o o' b e1 e2 _ _ r1 r2 => ?_⟩, ⟨.ref a, [], rfl, ⟨a, ns.map V.int, rfl, ?_, ?_, RVs.ints ns⟩, rfl⟩, ?_⟩
  · have z : (if b ∈ cs.map (·.2) then none else H b) = some o := z
    split at z
    · cases z
    · exact z
  · obtain ⟨x, c, _, rfl, hc, ht⟩ := at_ i o b e1 e2
    exact ⟨c, #[], ht, hT _ (List.mem_of_getElem? hc), True.intro, fun pos cv z => by simp [codeAmong] at z⟩
  · show (if b ∈ cs.map (·.2) then none else H b) = none
    rw [if_pos (List.mem_of_getElem? e2)]
  · have hi := (List.getElem?_eq_some_iff.mp r1).1
    exact (List.getElem?_inj hi nd).mp (r1.trans r2.symm)
  · have na : a ∉ cs.map (·.2) := fun z => by
      obtain ⟨p, hp, e⟩ := List.mem_map.mp z
      exact hna p hp e
    have eF : (fun b => if b ∈ cs.map (·.2) then none else H b : Hp) a = H a := if_neg na
    rcases q with (q | ⟨o, q⟩) | q
    · exact .inl (.inl (eF.trans q))
    · exact .inl (.inr ⟨o, eF.trans q⟩)
    · exact .inr q
  · rw [List.length_map, sizeLine_eq]; omega
  · rw [pl]
    exact fun w' H' v l s k r => r
theorem walkG {l : PySem.W.OpenLaw} {q : Program} {loose : List Str} {XP : (Str → Option Value) → Heap → Prop} {YP : World → Heap → Prop} {d : DefRec} {K : Params → PySem.W.Frag} {k : Nat} {x : Str} {m : List D → M D} (xs : List (Str × Str))
    (plain : ∀ ns : List Int, ns.length ≤ 63 → ∃ h, m [.arg (ns.map D.int)] (tabsH xs) = .ok (.bl true) h) (hn : l.most = some 63) (hdf : d.params.defaults = []) (hr : Room k callerA)
    (hrec : ∀ y ∈ xs, ((recsOf q).find? fun e => e.name == y.1).isSome = true) (hY : ∀ (w : World) (h : Heap), YP w h → (K w.params).In h)
    (F : ∀ (w : World) (mg : Str → Option Value) (fa : Addr) (h : Heap), (K w.params).In h → h.Ns mainGlobals mg → mg d.name = some (.ref fa) →
      ∃ (fd : FuncData) (cs : List (Addr × Addr)), (∀ (s : Shared) (u : Value), BindsTo s fd ⟨[u], []⟩ [(x, u)]) ∧ xs.map (fun y => PySem.W.tabIn (K w.params) y.1) = cs.map some ∧ (cs.map (·.2)).Nodup ∧ (∀ p ∈ cs, (K w.params).lookup p.2 = none) ∧
        ∀ base : Heap, (K w.params).In base → base.Ns mainGlobals mg → (∀ p ∈ cs, TabB base mg p.1 p.2) → FnG l.prog w (K w.params) mg base CX0 k fa fd [x] (spM0 (K w.params) 1 m)) :
    PySem.W.WalkO q loose XP YP l.row.toRowW d [] (fun f vs => PySem.call f vs) := by
  refine Att.attach_callB hn hdf fun w s₀ s₁ mg mb fa o pm cd doc a vs ns G Y ho hd hcd hmg hobj hints hlen hbits hg => ?_
  have KX := hY w _ Y
  obtain ⟨fd, cs, hb, ht, nd, nT, hF⟩ := F w mg fa _ KX G.T.g hmg
  have tabs : ∀ p ∈ cs, PySem.W.CodeHd s₁.heap p.1 p.2 ∧ s₁.heap.get? p.2 = some { cls := .none, data := .fields #[] } := fun p hp => by
    obtain ⟨i, hi⟩ := List.getElem?_of_mem hp
    have z := congrArg (fun l => l[i]?) ht
    simp only [List.getElem?_map, hi, Option.map_some] at z
    obtain ⟨y, y1, y2⟩ := Option.map_eq_some_iff.mp z
    obtain ⟨dr, hdr⟩ := Option.isSome_iff_exists.mp (hrec y (List.mem_of_getElem? y1))
    exact PySem.W.tab_of G.T KX hdr y2
  exact lawG_call KX G.T.g G.T.b G.T.builtins G.T.nolimit hg (fun p hp => (tabs p hp).2) nT (fun p hp => (tabs p hp).1) G.T.bmain hobj hints (Nat.le_trans hlen (by rw [sizeLine_eq]; decide)) hr hF hb
    (fun H hH hS hne => sp_ofT (by decide) hlen ht nd hH hne hS (plain ns hlen)) fun _ _ _ z => z
end Mz

/-! the rules by what the text says of its errors -/
namespace Mz
open PySem PySem.Spec PyProof.Rows L2 LamX
abbrev bmVE : List Value := [.type "ValueError", .type "Exception", .type "BaseException", .type "object"]
/-- all that the text says of its error classes, named cs -/
structure ErrG (K : PySem.W.Frag) (mg : Str → Option Value) (P : Program) (cs : List Str) : Prop where
  ex : ∃ CS fI : Addr, StBase K mg P CS fI ∧ Catches K CS cs ∧ ErrCs K cs ∧ (∀ c ∈ cs, ∃ C, PySem.W.nsIn K mainGlobals c = some (some (.ref C)) ∧ mg c = some (.ref C) ∧ StCls K C CS fI bmVE) ∧ mg "StillError" = some (.ref CS)
section
variable {X : Cx} {W : WX'} {o e : Expr} {mo me : L → M D} {pos : Pos} {cs : List Str}
theorem me_value (T : ErrG X.K X.mg X.prog cs) (ho : ME X W o mo) (hb : attributeBase o "value" X.env (eval o X.env) = eval o X.env := by rfl) : ME X W (.Attribute o "value" pos) (errV cs mo) := by
  obtain ⟨CS, fI, t1, t2, t3, t4, t5⟩ := T.ex
  exact me_errval t3 ho hb
theorem me_isErr {cn : Str} {p p' : Pos} (T : ErrG X.K X.mg X.prog cs) (hc : cn ∈ cs) (hgc : Gl X cn) (hg : Gl X "isinstance") (hm : X.mg "isinstance" = none) (ho : ME X W o mo) (hdc : (cn == ("__debug__" : Str)) = false := by decide)
    (he : starEach (o :: [.Name cn p']) X.env = (false, eval o X.env) :: starEach [.Name cn p'] X.env := by rfl) (he2 : starEach [.Name cn p'] X.env = (false, eval (.Name cn p') X.env) :: starEach [] X.env := by rfl) (hpl : (backTo pos (starEach [.Name cn p'] X.env)).any (·.1) = false := by rfl) :
    ME X W (.Call (.Name "isinstance" p) [o, .Name cn p'] [] pos) (isEV cs cn mo) := by
  obtain ⟨CS, fI, t1, t2, t3, t4, t5⟩ := T.ex
  obtain ⟨C, n1, n2, n3⟩ := t4 cn hc
  exact me_isE t3 n1 n2 hgc hg hm ho hdc he he2 hpl
theorem ms_raiseE {c : Str} {p pos2 : Pos} (T : ErrG X.K X.mg X.prog cs) (hcs : c ∈ cs) (hc : X.calm = true) (tk : Takes X W) (hgd : X.A.guards = some []) (hr : Room 2 X.A) (hg : Gl X c) (he : ME X W e me) (hdb : (c == ("__debug__" : Str)) = false := by decide)
    (hst : starEach (e :: []) X.env = (false, eval e X.env) :: starEach [] X.env := by rfl) (hpl : (backTo pos (starEach [] X.env)).any (·.1) = false := by rfl) :
    MS X W (.Raise (some (.Call (.Name c p) [e] [] pos)) none pos2) (raiseS c me) := by
  obtain ⟨CS, fI, t1, t2, t3, t4, t5⟩ := T.ex
  obtain ⟨C, n1, n2, n3⟩ := t4 c hcs
  exact ms_raise hc tk t1 n3 F.excBase_ValueError n1 n2 hgd hr hg he hdb hst hpl
theorem me_caughtE {n : Nat} {x q : Str} {c P : Addr} {k : Nat} {params : Arguments} {body : Expr} {scope : Scope} {mb : L → M D} {p lpos : Pos} (T : ErrG X.K X.mg X.prog cs) (G : ∀ CS, X.mg "StillError" = some (.ref CS) → Cgt X.K X.mg CS) (ti : PySem.W.tabIn X.K x = some (c, P)) (TB : TabB X.base X.mg c P) (hcode : X.env.code = .ref c)
    (hq : X.env.qual ++ "<lambda>" = q) (hgd : X.A.guards = some []) (hr : Room (k + 2) X.A) (hg : Gl X "_law_caught") (Ls : LamS X.env.scope scope) (hdef : defaultsOf params X.env = ([], []))
    (hbind : ∀ (q : Str) (cl : List (Str × Addr)) (pm cv ctv : Value), bindArgs (PySem.W.kla_fn "<lambda>" q params body scope cl pm cv ctv) ⟨[], []⟩ = pure [])
    (hbody : ∀ (E : XK) (A : Around) (outer : List Env) (s : Shared) (H : Hp) (f c' : Addr), A.guards = some [] → Room k (A.deeper (lamEnv X scope s.heap.objs.size f c')) → ME (lamCx X A outer s H E scope f c') (fun cls d _ H => E cls d H) body mb) :
    ME X W (.Call (.Name "_law_caught" p) [.Lambda params body scope lpos] [] pos) (caughtV n x q cs mb) := by
  obtain ⟨CS, fI, t1, t2, t3, t4, t5⟩ := T.ex
  exact me_caught (G CS t5) t2 ti TB hcode hq hgd hr hg Ls hdef hbind hbody
/-- {} -/
theorem me_edict : ME X W (.Dict [] [] pos) (cst .edict) := PE.weak pe_dnewK fun σ H Q ⟨w, l, h, s, sl, r⟩ => fun p hp => Res.fixed r s hp ⟨p, rfl, by show upd w.F p _ p = _; rw [upd_same]⟩
end
theorem tabIn_mk {K : PySem.W.Frag} {x : Str} {f c P : Addr} {oc : Value} {od : Option Addr} {fd : FuncData} {sl : Array (Option Value)} {e : Value} {dq : Option Addr} {vs : Array Value} {sq : Array (Option Value)} (a : PySem.W.nsIn K mainGlobals x = some (some (.ref f))) (l : K.lookup f = some ⟨oc, od, .func fd, sl⟩) (hc : fd.code = .ref c)
    (q : K.lookup c = some ⟨e, dq, .fields vs, sq⟩) (v : vs[11]? = some (.ref P)) : PySem.W.tabIn K x = some (c, P) := by
  unfold PySem.W.tabIn
  rw [a]
  simp only [l, hc, q, v]
/-- what a class of errors says, by facts of the written part -/
theorem errC_mk {K : PySem.W.Frag} {C : Addr} (h1 : PySem.W.findIn K (.ref C) "__getattribute__" = some (some (.builtin "BaseException.__getattribute__"))) (h2 : PySem.W.findIn K (.ref C) "__getattr__" = some none) (h3 : PySem.W.subIn K (.ref C) (.type "BaseException") = some true) (h4 : PySem.W.hasDictIn K C = true)
    (h5 : PySem.W.findIn K (.ref C) "value" = some none) (h6 : (PySem.W.clsIn K C).isSome = true) (h7 : PySem.W.findIn K (.ref C) "__class__" = some (some (.builtin "object.__class__"))) (h8 : PySem.W.specialIn K (.builtin "object.__class__") "__get__" = some (some (.builtin "getset_descriptor.__get__")))
    (h9 : PySem.W.takesIn K (.builtin "object.__class__") = some true) (h10 : PySem.W.mroIn K C (.type "object") = some true) : ErrC K C := ⟨⟨h1, h2, h3, h4⟩, h5, h6, h7, h8, h9, h10⟩
end Mz

namespace Mz
open PySem L2
def topS (i : Nat) : Stmt := PySem.Challenge.pw_stillhits_k67_finders_as_texts.main.body.getD i (.Pass ⟨0, 0, 0, 0⟩)
def c_SMALL : D := .str [97, 98, 99, 100, 101, 102, 103, 104, 105, 106, 107, 108, 109, 110, 111, 112, 113, 114, 115, 116, 117, 118, 119, 120, 121, 122]
def c_GREAT : D := .str [65, 66, 67, 68, 69, 70, 71, 72, 73, 74, 75, 76, 77, 78, 79, 80, 81, 82, 83, 84, 85, 86, 87, 88, 89, 90]
def c_LONGEST : D := .int 8
def c_CHILD : D := .str [99, 104, 105, 108, 100]
def c_BELOW : D := .str [98, 101, 108, 111, 119]
def c_NEXT : D := .str [110, 101, 120, 116]
def c_AXES : D := .tup [.str [99, 104, 105, 108, 100], .str [98, 101, 108, 111, 119], .str [110, 101, 120, 116]]
def c_STEP_PARTS : D := .int 6
def c_MOST_STEPS : D := .int 4
def c_MOST_MARKS : D := .int 2
def c_MOST_HAS : D := .int 2
def c_MOST_NTH : D := .int 3
def c_MOST_TEXTS : D := .int 3
def c_ANY : D := .str [42]
def c_STEP_JOINT : D := .str [32, 62, 32]
abbrev errNames : List Str := ["BadFinder", "BadText"]
structure Glo (K : PySem.W.Frag) (mg : Str → Option Value) : Prop where
  b_abs : mg "abs" = none
  b_all : mg "all" = none
  b_bool : mg "bool" = none
  b_int : mg "int" = none
  b_isinstance : mg "isinstance" = none
  b_len : mg "len" = none
  b_list : mg "list" = none
  b_max : mg "max" = none
  b_min : mg "min" = none
  b_range : mg "range" = none
  b_repr : mg "repr" = none
  b_set : mg "set" = none
  b_sorted : mg "sorted" = none
  b_str : mg "str" = none
  b_tuple : mg "tuple" = none
  b_zip : mg "zip" = none
  c_SMALL : Const K mg "SMALL" Mz.c_SMALL
  c_GREAT : Const K mg "GREAT" Mz.c_GREAT
  c_LONGEST : Const K mg "LONGEST" Mz.c_LONGEST
  c_CHILD : Const K mg "CHILD" Mz.c_CHILD
  c_BELOW : Const K mg "BELOW" Mz.c_BELOW
  c_NEXT : Const K mg "NEXT" Mz.c_NEXT
  c_AXES : Const K mg "AXES" Mz.c_AXES
  c_STEP_PARTS : Const K mg "STEP_PARTS" Mz.c_STEP_PARTS
  c_MOST_STEPS : Const K mg "MOST_STEPS" Mz.c_MOST_STEPS
  c_MOST_MARKS : Const K mg "MOST_MARKS" Mz.c_MOST_MARKS
  c_MOST_HAS : Const K mg "MOST_HAS" Mz.c_MOST_HAS
  c_MOST_NTH : Const K mg "MOST_NTH" Mz.c_MOST_NTH
  c_MOST_TEXTS : Const K mg "MOST_TEXTS" Mz.c_MOST_TEXTS
  c_ANY : Const K mg "ANY" Mz.c_ANY
  c_STEP_JOINT : Const K mg "STEP_JOINT" Mz.c_STEP_JOINT
abbrev s_is_integer : Stmt := topS 8
theorem sc_is_integer : FnScope ["value"] ["value"] (defScope s_is_integer) := ⟨rfl, rfl, rfl, by decide +kernel, rfl, by decide +kernel, by decide +kernel⟩
def b_is_integer : S := retS (andV (callV isiD (consA (getL 0) (consA (cst (.ty "int")) (nilA)))) (notV (callV isiD (consA (getL 0) (consA (cst (.ty "bool")) (nilA))))))
def m_is_integer : List D → M D := bodyM 1 1 b_is_integer
theorem ok_is_integer {P : Program} {w : World} {K : PySem.W.Frag} {mg : Str → Option Value} {base : Heap} {f : Addr} {fd : FuncData} (T : Glo K mg) (F : Fun K "is_integer" "is_integer" s_is_integer f fd) (hm : mg "is_integer" = some (.ref f)) (b : Binds K fd ["value"] [])  :
    Fn0 P w K mg base 1 "is_integer" m_is_integer := by
  have nd := sc_is_integer.nd
  refine Fn0.make F hm sc_is_integer b rfl rfl fun cdv A outer s H E hr => ?_
  exact (mss_one (ms_ret (me_and (me_callB (cm_isi) rfl T.b_isinstance (by decide +kernel) (ma_cons (me_var 0) (ma_cons (me_ty "int" rfl T.b_int (by decide +kernel)) ma_nil))) (me_one (me_not (me_callB (cm_isi) rfl T.b_isinstance (by decide +kernel) (ma_cons (me_var 0) (ma_cons (me_ty "bool" rfl T.b_bool (by decide +kernel)) ma_nil))))))))
abbrev s_is_between : Stmt := topS 9
theorem sc_is_between : FnScope ["value", "least", "most"] ["value", "least", "most"] (defScope s_is_between) := ⟨rfl, rfl, rfl, by decide +kernel, rfl, by decide +kernel, by decide +kernel⟩
def b_is_between : S := retS (andV (callF m_is_integer (consA (getL 0) (nilA))) (op2c leD leD (getL 1) (getL 0) (getL 2)))
def m_is_between : List D → M D := bodyM 3 3 b_is_between
theorem ok_is_between {P : Program} {w : World} {K : PySem.W.Frag} {mg : Str → Option Value} {base : Heap} {f : Addr} {fd : FuncData} (T : Glo K mg) (F : Fun K "is_between" "is_between" s_is_between f fd) (hm : mg "is_between" = some (.ref f)) (b : Binds K fd ["value", "least", "most"] []) (G_is_integer : Fn0 P w K mg base 1 "is_integer" m_is_integer) :
    Fn0 P w K mg base 2 "is_between" m_is_between := by
  have nd := sc_is_between.nd
  refine Fn0.make F hm sc_is_between b rfl rfl fun cdv A outer s H E hr => ?_
  exact (mss_one (ms_ret (me_and (me_call G_is_integer (hr.mono (by first | decide | omega)) rfl (ma_cons (me_var 0) ma_nil)) (me_one (me_chain om_le om_le (me_var 1) (me_var 0) (me_var 2))))))
abbrev s_is_name : Stmt := topS 10
theorem sc_is_name : FnScope ["value", "sign"] ["value"] (defScope s_is_name) := ⟨rfl, rfl, rfl, by decide +kernel, rfl, by decide +kernel, by decide +kernel⟩
def b_is_name : S := retS (andV (callV isiD (consA (getL 0) (consA (cst (.ty "str")) (nilA)))) (andV (op2c leD leD (cst (.int 1)) (callV lenD (consA (getL 0) (nilA))) (cst (c_LONGEST))) (callV allD (consA (lcV (itV (getL 0)) (nameG 1) (yesT) (op2 inD (getL 1) (cst (c_SMALL))) [1]) (nilA)))))
def m_is_name : List D → M D := bodyM 1 2 b_is_name
theorem ok_is_name {P : Program} {w : World} {K : PySem.W.Frag} {mg : Str → Option Value} {base : Heap} {f : Addr} {fd : FuncData} (T : Glo K mg) (F : Fun K "is_name" "is_name" s_is_name f fd) (hm : mg "is_name" = some (.ref f)) (b : Binds K fd ["value"] [])  :
    Fn0 P w K mg base 1 "is_name" m_is_name := by
  have nd := sc_is_name.nd
  refine Fn0.make F hm sc_is_name b rfl rfl fun cdv A outer s H E hr => ?_
  exact (mss_one (ms_ret (me_and (me_callB (cm_isi) rfl T.b_isinstance (by decide +kernel) (ma_cons (me_var 0) (ma_cons (me_ty "str" rfl T.b_str (by decide +kernel)) ma_nil))) (me_and (me_chain om_le om_le me_int (me_callB (cm_len) rfl T.b_len (by decide +kernel) (ma_cons (me_var 0) ma_nil)) (me_const T.c_LONGEST rfl)) (me_one (me_callB (cm_all rfl) rfl T.b_all (by decide +kernel) (ma_cons (me_lc [("sign", 1)] [1] rfl nd (mi_of (me_var 0)) (blkOk_by (N := ["value", "sign"]) (sc := defScope s_is_name) (own := [("sign", 1)]) (by decide +kernel)) (fun _ _ _ _ _ => (mg_name 1 nd)) (fun _ _ _ _ _ => mts_nil) (fun _ _ _ _ _ => (me_cmp om_in (me_var 1) (me_const T.c_SMALL rfl) rfl))) ma_nil)))))))
abbrev s_is_fixed : Stmt := topS 11
theorem sc_is_fixed : FnScope ["value", "sign"] ["value"] (defScope s_is_fixed) := ⟨rfl, rfl, rfl, by decide +kernel, rfl, by decide +kernel, by decide +kernel⟩
def b_is_fixed : S := seqS (ifS (orT (notT (toT (callV isiD (consA (getL 0) (consA (cst (.ty "str")) (nilA)))))) (orT (notT (toTB (op2c leD leD (cst (.int 1)) (callV lenD (consA (getL 0) (nilA))) (cst (c_LONGEST))))) (toTB (op2 notInD (op2 ixD (getL 0) (cst (.int 0))) (cst (c_GREAT)))))) (retS (cst (.bl false))) (nextS))
  (retS (callV allD (consA (lcV (itV (slV (getL 0) (someO (cst (.int 1))) noO)) (nameG 1) (yesT) (op2 inD (getL 1) (cst (c_SMALL))) [1]) (nilA))))
def m_is_fixed : List D → M D := bodyM 1 2 b_is_fixed
theorem ok_is_fixed {P : Program} {w : World} {K : PySem.W.Frag} {mg : Str → Option Value} {base : Heap} {f : Addr} {fd : FuncData} (T : Glo K mg) (F : Fun K "is_fixed" "is_fixed" s_is_fixed f fd) (hm : mg "is_fixed" = some (.ref f)) (b : Binds K fd ["value"] [])  :
    Fn0 P w K mg base 1 "is_fixed" m_is_fixed := by
  have nd := sc_is_fixed.nd
  refine Fn0.make F hm sc_is_fixed b rfl rfl fun cdv A outer s H E hr => ?_
  exact (mss_cons (ms_if (MW.mt (mw_or (mt_not (mt_val (me_callB (cm_isi) rfl T.b_isinstance (by decide +kernel) (ma_cons (me_var 0) (ma_cons (me_ty "str" rfl T.b_str (by decide +kernel)) ma_nil))))) (mw_or (mt_not (mt_chain om_le om_le me_int (me_callB (cm_len) rfl T.b_len (by decide +kernel) (ma_cons (me_var 0) ma_nil)) (me_const T.c_LONGEST rfl))) (mw_or1 (mt_cmp om_notIn (me_ix (me_var 0) me_int) (me_const T.c_GREAT rfl) rfl))))) (mss_one (ms_ret me_bl)) mss_nil)
    (mss_one (ms_ret (me_callB (cm_all rfl) rfl T.b_all (by decide +kernel) (ma_cons (me_lc [("sign", 1)] [1] rfl nd (mi_of (me_slice (me_var 0) (mo_some me_int) mo_none)) (blkOk_by (N := ["value", "sign"]) (sc := defScope s_is_fixed) (own := [("sign", 1)]) (by decide +kernel)) (fun _ _ _ _ _ => (mg_name 1 nd)) (fun _ _ _ _ _ => mts_nil) (fun _ _ _ _ _ => (me_cmp om_in (me_var 1) (me_const T.c_SMALL rfl) rfl))) ma_nil)))))
abbrev s_is_tuple_of : Stmt := topS 12
theorem sc_is_tuple_of : FnScope ["value", "many"] ["value", "many"] (defScope s_is_tuple_of) := ⟨rfl, rfl, rfl, by decide +kernel, rfl, by decide +kernel, by decide +kernel⟩
def b_is_tuple_of : S := retS (andV (callV isiD (consA (getL 0) (consA (cst (.ty "tuple")) (nilA)))) (op2 eqD (callV lenD (consA (getL 0) (nilA))) (getL 1)))
def m_is_tuple_of : List D → M D := bodyM 2 2 b_is_tuple_of
theorem ok_is_tuple_of {P : Program} {w : World} {K : PySem.W.Frag} {mg : Str → Option Value} {base : Heap} {f : Addr} {fd : FuncData} (T : Glo K mg) (F : Fun K "is_tuple_of" "is_tuple_of" s_is_tuple_of f fd) (hm : mg "is_tuple_of" = some (.ref f)) (b : Binds K fd ["value", "many"] [])  :
    Fn0 P w K mg base 1 "is_tuple_of" m_is_tuple_of := by
  have nd := sc_is_tuple_of.nd
  refine Fn0.make F hm sc_is_tuple_of b rfl rfl fun cdv A outer s H E hr => ?_
  exact (mss_one (ms_ret (me_and (me_callB (cm_isi) rfl T.b_isinstance (by decide +kernel) (ma_cons (me_var 0) (ma_cons (me_ty "tuple" rfl T.b_tuple (by decide +kernel)) ma_nil))) (me_one (me_cmp (om_eq hr.units) (me_callB (cm_len) rfl T.b_len (by decide +kernel) (ma_cons (me_var 0) ma_nil)) (me_var 1) (nomark _))))))
abbrev s_are_ascending : Stmt := topS 13
theorem sc_are_ascending : FnScope ["values", "one", "other"] ["values"] (defScope s_are_ascending) := ⟨rfl, rfl, rfl, by decide +kernel, rfl, by decide +kernel, by decide +kernel⟩
def b_are_ascending : S := retS (callV allD (consA (lcV (argsV zipD (consA (getL 0) (consA (slV (getL 0) (someO (cst (.int 1))) noO) (nilA)))) (tupG 2 (consG (nameG 1) (consG (nameG 2) (nilG)))) (yesT) (op2 ltD (getL 1) (getL 2)) [1, 2]) (nilA)))
def m_are_ascending : List D → M D := bodyM 1 3 b_are_ascending
theorem ok_are_ascending {P : Program} {w : World} {K : PySem.W.Frag} {mg : Str → Option Value} {base : Heap} {f : Addr} {fd : FuncData} (T : Glo K mg) (F : Fun K "are_ascending" "are_ascending" s_are_ascending f fd) (hm : mg "are_ascending" = some (.ref f)) (b : Binds K fd ["values"] [])  :
    Fn0 P w K mg base 1 "are_ascending" m_are_ascending := by
  have nd := sc_are_ascending.nd
  refine Fn0.make F hm sc_are_ascending b rfl rfl fun cdv A outer s H E hr => ?_
  exact (mss_one (ms_ret (me_callB (cm_all rfl) rfl T.b_all (by decide +kernel) (ma_cons (me_lc [("one", 1), ("other", 2)] [1, 2] rfl nd (mi_zip rfl T.b_zip (ma_cons (me_var 0) (ma_cons (me_slice (me_var 0) (mo_some me_int) mo_none) ma_nil))) (blkOk_by (N := ["values", "one", "other"]) (sc := defScope s_are_ascending) (own := [("one", 1), ("other", 2)]) (by decide +kernel)) (fun _ _ _ _ _ => (mg_tup 2 rfl (mgs_cons (mg_name 1 nd) (mgs_cons (mg_name 2 nd) mgs_nil)))) (fun _ _ _ _ _ => mts_nil) (fun _ _ _ _ _ => (me_cmp om_lt (me_var 1) (me_var 2) (nomark _)))) ma_nil))))
abbrev s_is_hole : Stmt := topS 25
theorem sc_is_hole : FnScope ["value"] ["value"] (defScope s_is_hole) := ⟨rfl, rfl, rfl, by decide +kernel, rfl, by decide +kernel, by decide +kernel⟩
def b_is_hole : S := retS (andV (callV isiD (consA (getL 0) (consA (cst (.ty "str")) (nilA)))) (andV (op2 eqD (slV (getL 0) noO (someO (cst (.int 1)))) (cst (.str [123]))) (andV (op2 eqD (slV (getL 0) (someO (negV (cst (.int 1)))) noO) (cst (.str [125]))) (callF m_is_name (consA (slV (getL 0) (someO (cst (.int 1))) (someO (negV (cst (.int 1))))) (nilA))))))
def m_is_hole : List D → M D := bodyM 1 1 b_is_hole
theorem ok_is_hole {P : Program} {w : World} {K : PySem.W.Frag} {mg : Str → Option Value} {base : Heap} {f : Addr} {fd : FuncData} (T : Glo K mg) (F : Fun K "is_hole" "is_hole" s_is_hole f fd) (hm : mg "is_hole" = some (.ref f)) (b : Binds K fd ["value"] []) (G_is_name : Fn0 P w K mg base 1 "is_name" m_is_name) :
    Fn0 P w K mg base 2 "is_hole" m_is_hole := by
  have nd := sc_is_hole.nd
  refine Fn0.make F hm sc_is_hole b rfl rfl fun cdv A outer s H E hr => ?_
  exact (mss_one (ms_ret (me_and (me_callB (cm_isi) rfl T.b_isinstance (by decide +kernel) (ma_cons (me_var 0) (ma_cons (me_ty "str" rfl T.b_str (by decide +kernel)) ma_nil))) (me_and (me_cmp (om_eq hr.units) (me_slice (me_var 0) mo_none (mo_some me_int)) (me_str [123]) (nomark _)) (me_and (me_cmp (om_eq hr.units) (me_slice (me_var 0) (mo_some (me_neg me_int)) mo_none) (me_str [125]) (nomark _)) (me_one (me_call G_is_name (hr.mono (by first | decide | omega)) rfl (ma_cons (me_slice (me_var 0) (mo_some me_int) (mo_some (me_neg me_int))) ma_nil))))))))
abbrev s_is_sought : Stmt := topS 26
theorem sc_is_sought : FnScope ["value"] ["value"] (defScope s_is_sought) := ⟨rfl, rfl, rfl, by decide +kernel, rfl, by decide +kernel, by decide +kernel⟩
def b_is_sought : S := retS (orV (callF m_is_name (consA (getL 0) (nilA))) (orV (callF m_is_fixed (consA (getL 0) (nilA))) (callF m_is_hole (consA (getL 0) (nilA)))))
def m_is_sought : List D → M D := bodyM 1 1 b_is_sought
theorem ok_is_sought {P : Program} {w : World} {K : PySem.W.Frag} {mg : Str → Option Value} {base : Heap} {f : Addr} {fd : FuncData} (T : Glo K mg) (F : Fun K "is_sought" "is_sought" s_is_sought f fd) (hm : mg "is_sought" = some (.ref f)) (b : Binds K fd ["value"] []) (G_is_name : Fn0 P w K mg base 1 "is_name" m_is_name) (G_is_fixed : Fn0 P w K mg base 1 "is_fixed" m_is_fixed) (G_is_hole : Fn0 P w K mg base 2 "is_hole" m_is_hole) :
    Fn0 P w K mg base 3 "is_sought" m_is_sought := by
  have nd := sc_is_sought.nd
  refine Fn0.make F hm sc_is_sought b rfl rfl fun cdv A outer s H E hr => ?_
  exact (mss_one (ms_ret (me_or (me_call G_is_name (hr.mono (by first | decide | omega)) rfl (ma_cons (me_var 0) ma_nil)) (me_or (me_call G_is_fixed (hr.mono (by first | decide | omega)) rfl (ma_cons (me_var 0) ma_nil)) (me_one (me_call G_is_hole (hr.mono (by first | decide | omega)) rfl (ma_cons (me_var 0) ma_nil)))))))
abbrev s_is_tag : Stmt := topS 27
theorem sc_is_tag : FnScope ["value"] ["value"] (defScope s_is_tag) := ⟨rfl, rfl, rfl, by decide +kernel, rfl, by decide +kernel, by decide +kernel⟩
def b_is_tag : S := retS (orV (andV (callV isiD (consA (getL 0) (consA (cst (.ty "str")) (nilA)))) (op2 eqD (getL 0) (cst (.str [])))) (callF m_is_name (consA (getL 0) (nilA))))
def m_is_tag : List D → M D := bodyM 1 1 b_is_tag
theorem ok_is_tag {P : Program} {w : World} {K : PySem.W.Frag} {mg : Str → Option Value} {base : Heap} {f : Addr} {fd : FuncData} (T : Glo K mg) (F : Fun K "is_tag" "is_tag" s_is_tag f fd) (hm : mg "is_tag" = some (.ref f)) (b : Binds K fd ["value"] []) (G_is_name : Fn0 P w K mg base 1 "is_name" m_is_name) :
    Fn0 P w K mg base 2 "is_tag" m_is_tag := by
  have nd := sc_is_tag.nd
  refine Fn0.make F hm sc_is_tag b rfl rfl fun cdv A outer s H E hr => ?_
  exact (mss_one (ms_ret (me_or (me_and (me_callB (cm_isi) rfl T.b_isinstance (by decide +kernel) (ma_cons (me_var 0) (ma_cons (me_ty "str" rfl T.b_str (by decide +kernel)) ma_nil))) (me_one (me_cmp (om_eq hr.units) (me_var 0) (me_str []) (nomark _)))) (me_one (me_call G_is_name (hr.mono (by first | decide | omega)) rfl (ma_cons (me_var 0) ma_nil))))))
abbrev s_are_marks : Stmt := topS 28
theorem sc_are_marks : FnScope ["value", "mark"] ["value"] (defScope s_are_marks) := ⟨rfl, rfl, rfl, by decide +kernel, rfl, by decide +kernel, by decide +kernel⟩
def b_are_marks : S := seqS (ifS (orT (notT (toT (callV isiD (consA (getL 0) (consA (cst (.ty "tuple")) (nilA)))))) (orT (toTB (op2 gtD (callV lenD (consA (getL 0) (nilA))) (cst (c_MOST_MARKS)))) (notT (toT (callV allD (consA (lcV (itV (getL 0)) (nameG 1) (yesT) (callF m_is_name (consA (getL 1) (nilA))) [1]) (nilA))))))) (retS (cst (.bl false))) (nextS))
  (retS (callF m_are_ascending (consA (getL 0) (nilA))))
def m_are_marks : List D → M D := bodyM 1 2 b_are_marks
theorem ok_are_marks {P : Program} {w : World} {K : PySem.W.Frag} {mg : Str → Option Value} {base : Heap} {f : Addr} {fd : FuncData} (T : Glo K mg) (F : Fun K "are_marks" "are_marks" s_are_marks f fd) (hm : mg "are_marks" = some (.ref f)) (b : Binds K fd ["value"] []) (G_is_name : Fn0 P w K mg base 1 "is_name" m_is_name) (G_are_ascending : Fn0 P w K mg base 1 "are_ascending" m_are_ascending) :
    Fn0 P w K mg base 2 "are_marks" m_are_marks := by
  have nd := sc_are_marks.nd
  refine Fn0.make F hm sc_are_marks b rfl rfl fun cdv A outer s H E hr => ?_
  exact (mss_cons (ms_if (MW.mt (mw_or (mt_not (mt_val (me_callB (cm_isi) rfl T.b_isinstance (by decide +kernel) (ma_cons (me_var 0) (ma_cons (me_ty "tuple" rfl T.b_tuple (by decide +kernel)) ma_nil))))) (mw_or (mt_cmp om_gt (me_callB (cm_len) rfl T.b_len (by decide +kernel) (ma_cons (me_var 0) ma_nil)) (me_const T.c_MOST_MARKS rfl) (nomark _)) (mw_or1 (mt_not (mt_val (me_callB (cm_all rfl) rfl T.b_all (by decide +kernel) (ma_cons (me_lc [("mark", 1)] [1] rfl nd (mi_of (me_var 0)) (blkOk_by (N := ["value", "mark"]) (sc := defScope s_are_marks) (own := [("mark", 1)]) (by decide +kernel)) (fun _ _ _ _ _ => (mg_name 1 nd)) (fun _ _ _ _ _ => mts_nil) (fun _ _ _ _ _ => (me_call G_is_name (hr.mono (by first | decide | omega)) rfl (ma_cons (me_var 1) ma_nil)))) ma_nil)))))))) (mss_one (ms_ret me_bl)) mss_nil)
    (mss_one (ms_ret (me_call G_are_ascending (hr.mono (by first | decide | omega)) rfl (ma_cons (me_var 0) ma_nil)))))
abbrev s_is_step : Stmt := topS 29
theorem sc_is_step : FnScope ["value", "axis", "tag", "marks", "text", "has", "nth"] ["value"] (defScope s_is_step) := ⟨rfl, rfl, rfl, by decide +kernel, rfl, by decide +kernel, by decide +kernel⟩
def b_is_step : S := seqS (ifS (notT (toT (callF m_is_tuple_of (consA (getL 0) (consA (cst (c_STEP_PARTS)) (nilA)))))) (retS (cst (.bl false))) (nextS))
  (seqS (asgS (getL 0) (tupG 6 (consG (nameG 1) (consG (nameG 2) (consG (nameG 3) (consG (nameG 4) (consG (nameG 5) (consG (nameG 6) (nilG)))))))))
  (seqS (ifS (orT (notT (toT (callV isiD (consA (getL 1) (consA (cst (.ty "str")) (nilA)))))) (orT (toTB (op2 notInD (getL 1) (cst (c_AXES)))) (orT (notT (toT (callF m_is_tag (consA (getL 2) (nilA))))) (notT (toT (callF m_are_marks (consA (getL 3) (nilA)))))))) (retS (cst (.bl false))) (nextS))
  (seqS (ifS (notT (orT (andT (toT (callV isiD (consA (getL 4) (consA (cst (.ty "tuple")) (nilA))))) (toTB (op2 eqD (getL 4) (tupV (nilA))))) (andT (toT (callF m_is_tuple_of (consA (getL 4) (consA (cst (.int 1)) (nilA))))) (toT (callF m_is_sought (consA (op2 ixD (getL 4) (cst (.int 0))) (nilA))))))) (retS (cst (.bl false))) (nextS))
  (seqS (ifS (notT (orT (andT (toT (callV isiD (consA (getL 5) (consA (cst (.ty "tuple")) (nilA))))) (toTB (op2 eqD (getL 5) (tupV (nilA))))) (andT (toT (callF m_is_tuple_of (consA (getL 5) (consA (cst (.int 2)) (nilA))))) (andT (toT (callF m_is_tag (consA (op2 ixD (getL 5) (cst (.int 0))) (nilA)))) (toT (callF m_is_sought (consA (op2 ixD (getL 5) (cst (.int 1))) (nilA)))))))) (retS (cst (.bl false))) (nextS))
  (retS (callF m_is_between (consA (getL 6) (consA (cst (.int 0)) (consA (cst (c_MOST_NTH)) (nilA))))))))))
def m_is_step : List D → M D := bodyM 1 7 b_is_step
theorem ok_is_step {P : Program} {w : World} {K : PySem.W.Frag} {mg : Str → Option Value} {base : Heap} {f : Addr} {fd : FuncData} (T : Glo K mg) (F : Fun K "is_step" "is_step" s_is_step f fd) (hm : mg "is_step" = some (.ref f)) (b : Binds K fd ["value"] []) (G_is_tuple_of : Fn0 P w K mg base 1 "is_tuple_of" m_is_tuple_of) (G_is_tag : Fn0 P w K mg base 2 "is_tag" m_is_tag) (G_are_marks : Fn0 P w K mg base 2 "are_marks" m_are_marks) (G_is_sought : Fn0 P w K mg base 3 "is_sought" m_is_sought) (G_is_between : Fn0 P w K mg base 2 "is_between" m_is_between) :
    Fn0 P w K mg base 4 "is_step" m_is_step := by
  have nd := sc_is_step.nd
  refine Fn0.make F hm sc_is_step b rfl rfl fun cdv A outer s H E hr => ?_
  exact (mss_cons (ms_if (mt_not (mt_val (me_call G_is_tuple_of (hr.mono (by first | decide | omega)) rfl (ma_cons (me_var 0) (ma_cons (me_const T.c_STEP_PARTS rfl) ma_nil))))) (mss_one (ms_ret me_bl)) mss_nil)
    (mss_cons (ms_asg (me_var 0) (mg_tup 6 rfl (mgs_cons (mg_name 1 nd) (mgs_cons (mg_name 2 nd) (mgs_cons (mg_name 3 nd) (mgs_cons (mg_name 4 nd) (mgs_cons (mg_name 5 nd) (mgs_cons (mg_name 6 nd) mgs_nil))))))))
    (mss_cons (ms_if (MW.mt (mw_or (mt_not (mt_val (me_callB (cm_isi) rfl T.b_isinstance (by decide +kernel) (ma_cons (me_var 1) (ma_cons (me_ty "str" rfl T.b_str (by decide +kernel)) ma_nil))))) (mw_or (mt_cmp om_notIn (me_var 1) (me_const T.c_AXES rfl) rfl) (mw_or (mt_not (mt_val (me_call G_is_tag (hr.mono (by first | decide | omega)) rfl (ma_cons (me_var 2) ma_nil)))) (mw_or1 (mt_not (mt_val (me_call G_are_marks (hr.mono (by first | decide | omega)) rfl (ma_cons (me_var 3) ma_nil))))))))) (mss_one (ms_ret me_bl)) mss_nil)
    (mss_cons (ms_if (mt_not (MW.mt (mw_or (MW.mt (mw_and (mt_val (me_callB (cm_isi) rfl T.b_isinstance (by decide +kernel) (ma_cons (me_var 4) (ma_cons (me_ty "tuple" rfl T.b_tuple (by decide +kernel)) ma_nil)))) (mw_and1 (mt_cmp (om_eq hr.units) (me_var 4) (me_tup ma_nil) (nomark _))))) (mw_or1 (MW.mt (mw_and (mt_val (me_call G_is_tuple_of (hr.mono (by first | decide | omega)) rfl (ma_cons (me_var 4) (ma_cons me_int ma_nil)))) (mw_and1 (mt_val (me_call G_is_sought (hr.mono (by first | decide | omega)) rfl (ma_cons (me_ix (me_var 4) me_int) ma_nil)))))))))) (mss_one (ms_ret me_bl)) mss_nil)
    (mss_cons (ms_if (mt_not (MW.mt (mw_or (MW.mt (mw_and (mt_val (me_callB (cm_isi) rfl T.b_isinstance (by decide +kernel) (ma_cons (me_var 5) (ma_cons (me_ty "tuple" rfl T.b_tuple (by decide +kernel)) ma_nil)))) (mw_and1 (mt_cmp (om_eq hr.units) (me_var 5) (me_tup ma_nil) (nomark _))))) (mw_or1 (MW.mt (mw_and (mt_val (me_call G_is_tuple_of (hr.mono (by first | decide | omega)) rfl (ma_cons (me_var 5) (ma_cons me_int ma_nil)))) (mw_and (mt_val (me_call G_is_tag (hr.mono (by first | decide | omega)) rfl (ma_cons (me_ix (me_var 5) me_int) ma_nil))) (mw_and1 (mt_val (me_call G_is_sought (hr.mono (by first | decide | omega)) rfl (ma_cons (me_ix (me_var 5) me_int) ma_nil))))))))))) (mss_one (ms_ret me_bl)) mss_nil)
    (mss_one (ms_ret (me_call G_is_between (hr.mono (by first | decide | omega)) rfl (ma_cons (me_var 6) (ma_cons me_int (ma_cons (me_const T.c_MOST_NTH rfl) ma_nil)))))))))))
abbrev s_texts_of : Stmt := topS 30
theorem sc_texts_of : FnScope ["finder", "found", "axis", "tag", "marks", "text", "has", "nth"] ["finder"] (defScope s_texts_of) := ⟨rfl, rfl, rfl, by decide +kernel, rfl, by decide +kernel, by decide +kernel⟩
def b_texts_of : S := seqS (setS 1 (lstN (nilA)))
  (seqS (forS (itV (getL 0)) (tupG 6 (consG (nameG 2) (consG (nameG 3) (consG (nameG 4) (consG (nameG 5) (consG (nameG 6) (consG (nameG 7) (nilG)))))))) (exprS (extV (getL 1) (consA (lstV (starA (getL 5) (starA (slV (getL 6) (someO (cst (.int 1))) noO) (nilA)))) (nilA)))))
  (retS (sortedSetV (consA (getL 1) (nilA)))))
def m_texts_of : List D → M D := bodyM 1 8 b_texts_of
theorem ok_texts_of {P : Program} {w : World} {K : PySem.W.Frag} {mg : Str → Option Value} {base : Heap} {f : Addr} {fd : FuncData} (T : Glo K mg) (F : Fun K "texts_of" "texts_of" s_texts_of f fd) (hm : mg "texts_of" = some (.ref f)) (b : Binds K fd ["finder"] [])  :
    Fn0 P w K mg base 1 "texts_of" m_texts_of := by
  have nd := sc_texts_of.nd
  refine Fn0.make F hm sc_texts_of b rfl rfl fun cdv A outer s H E hr => ?_
  exact (mss_cons (ms_set 1 nd (me_lstN ma_nil))
    (mss_cons (ms_for PassesOwn.never rfl (mi_of (me_var 0)) (mg_tup 6 rfl (mgs_cons (mg_name 2 nd) (mgs_cons (mg_name 3 nd) (mgs_cons (mg_name 4 nd) (mgs_cons (mg_name 5 nd) (mgs_cons (mg_name 6 nd) (mgs_cons (mg_name 7 nd) mgs_nil))))))) (mss_one (ms_expr (me_extend (me_var 1) (ma_cons (me_lst (ma_star (me_var 5) (ma_star (me_slice (me_var 6) (mo_some me_int) mo_none) ma_nil))) ma_nil)))))
    (mss_one (ms_ret (me_sortedSet rfl rfl rfl T.b_sorted T.b_set (ma_cons (me_var 1) ma_nil))))))
abbrev s_is_finder : Stmt := topS 31
theorem sc_is_finder : FnScope ["value", "step"] ["value"] (defScope s_is_finder) := ⟨rfl, rfl, rfl, by decide +kernel, rfl, by decide +kernel, by decide +kernel⟩
def b_is_finder : S := seqS (ifS (orT (notT (toT (callV isiD (consA (getL 0) (consA (cst (.ty "tuple")) (nilA)))))) (orT (notT (toTB (op2c leD leD (cst (.int 1)) (callV lenD (consA (getL 0) (nilA))) (cst (c_MOST_STEPS))))) (notT (toT (callV allD (consA (lcV (itV (getL 0)) (nameG 1) (yesT) (callF m_is_step (consA (getL 1) (nilA))) [1]) (nilA))))))) (retS (cst (.bl false))) (nextS))
  (seqS (ifS (orT (toTB (op2 eqD (op2 ixD (op2 ixD (getL 0) (cst (.int 0))) (cst (.int 0))) (cst (c_NEXT)))) (toTB (op2 gtD (callV lenD (consA (lcV (itV (getL 0)) (nameG 1) (toTB (op2 gtD (op2 ixD (getL 1) (cst (.int 5))) (cst (.int 0)))) (getL 1) [1]) (nilA))) (cst (.int 1))))) (retS (cst (.bl false))) (nextS))
  (retS (andV (op2 leD (callV lenD (consA (lcV (itV (getL 0)) (nameG 1) (toTB (op2 neD (op2 ixD (getL 1) (cst (.int 4))) (tupV (nilA)))) (getL 1) [1]) (nilA))) (cst (c_MOST_HAS))) (op2 leD (callV lenD (consA (callF m_texts_of (consA (getL 0) (nilA))) (nilA))) (cst (c_MOST_TEXTS))))))
def m_is_finder : List D → M D := bodyM 1 2 b_is_finder
theorem ok_is_finder {P : Program} {w : World} {K : PySem.W.Frag} {mg : Str → Option Value} {base : Heap} {f : Addr} {fd : FuncData} (T : Glo K mg) (F : Fun K "is_finder" "is_finder" s_is_finder f fd) (hm : mg "is_finder" = some (.ref f)) (b : Binds K fd ["value"] []) (G_is_step : Fn0 P w K mg base 4 "is_step" m_is_step) (G_texts_of : Fn0 P w K mg base 1 "texts_of" m_texts_of) :
    Fn0 P w K mg base 5 "is_finder" m_is_finder := by
  have nd := sc_is_finder.nd
  refine Fn0.make F hm sc_is_finder b rfl rfl fun cdv A outer s H E hr => ?_
  exact (mss_cons (ms_if (MW.mt (mw_or (mt_not (mt_val (me_callB (cm_isi) rfl T.b_isinstance (by decide +kernel) (ma_cons (me_var 0) (ma_cons (me_ty "tuple" rfl T.b_tuple (by decide +kernel)) ma_nil))))) (mw_or (mt_not (mt_chain om_le om_le me_int (me_callB (cm_len) rfl T.b_len (by decide +kernel) (ma_cons (me_var 0) ma_nil)) (me_const T.c_MOST_STEPS rfl))) (mw_or1 (mt_not (mt_val (me_callB (cm_all rfl) rfl T.b_all (by decide +kernel) (ma_cons (me_lc [("step", 1)] [1] rfl nd (mi_of (me_var 0)) (blkOk_by (N := ["value", "step"]) (sc := defScope s_is_finder) (own := [("step", 1)]) (by decide +kernel)) (fun _ _ _ _ _ => (mg_name 1 nd)) (fun _ _ _ _ _ => mts_nil) (fun _ _ _ _ _ => (me_call G_is_step (hr.mono (by first | decide | omega)) rfl (ma_cons (me_var 1) ma_nil)))) ma_nil)))))))) (mss_one (ms_ret me_bl)) mss_nil)
    (mss_cons (ms_if (MW.mt (mw_or (mt_cmp (om_eq hr.units) (me_ix (me_ix (me_var 0) me_int) me_int) (me_const T.c_NEXT rfl) (nomark _)) (mw_or1 (mt_cmp om_gt (me_callB (cm_len) rfl T.b_len (by decide +kernel) (ma_cons (me_lc [("step", 1)] [1] rfl nd (mi_of (me_var 0)) (blkOk_by (N := ["value", "step"]) (sc := defScope s_is_finder) (own := [("step", 1)]) (by decide +kernel)) (fun _ _ _ _ _ => (mg_name 1 nd)) (fun _ _ _ _ _ => (mts_one (mt_cmp om_gt (me_ix (me_var 1) me_int) me_int (nomark _)))) (fun _ _ _ _ _ => (me_var 1))) ma_nil)) me_int (nomark _))))) (mss_one (ms_ret me_bl)) mss_nil)
    (mss_one (ms_ret (me_and (me_cmp om_le (me_callB (cm_len) rfl T.b_len (by decide +kernel) (ma_cons (me_lc [("step", 1)] [1] rfl nd (mi_of (me_var 0)) (blkOk_by (N := ["value", "step"]) (sc := defScope s_is_finder) (own := [("step", 1)]) (by decide +kernel)) (fun _ _ _ _ _ => (mg_name 1 nd)) (fun _ _ _ _ _ => (mts_one (mt_cmp (om_ne hr.units) (me_ix (me_var 1) me_int) (me_tup ma_nil) (nomark _)))) (fun _ _ _ _ _ => (me_var 1))) ma_nil)) (me_const T.c_MOST_HAS rfl) (nomark _)) (me_one (me_cmp om_le (me_callB (cm_len) rfl T.b_len (by decide +kernel) (ma_cons (me_call G_texts_of (hr.mono (by first | decide | omega)) rfl (ma_cons (me_var 0) ma_nil)) ma_nil)) (me_const T.c_MOST_TEXTS rfl) (nomark _))))))))
abbrev s_check_finder : Stmt := topS 32
theorem sc_check_finder : FnScope ["value"] ["value"] (defScope s_check_finder) := ⟨rfl, rfl, rfl, by decide +kernel, rfl, by decide +kernel, by decide +kernel⟩
def b_check_finder : S := ifS (notT (toT (callF m_is_finder (consA (getL 0) (nilA))))) (raiseS "BadFinder" (getL 0)) (nextS)
def m_check_finder : List D → M D := bodyM 1 1 b_check_finder
theorem ok_check_finder {P : Program} {w : World} {K : PySem.W.Frag} {mg : Str → Option Value} {base : Heap} {f : Addr} {fd : FuncData} (T : Glo K mg) (F : Fun K "check_finder" "check_finder" s_check_finder f fd) (hm : mg "check_finder" = some (.ref f)) (b : Binds K fd ["value"] []) (Er : ErrG K mg P errNames) (G_is_finder : Fn0 P w K mg base 5 "is_finder" m_is_finder) :
    Fn1G P w K mg base 6 "check_finder" m_check_finder := by
  have nd := sc_check_finder.nd
  refine Fn1G.make F hm sc_check_finder b rfl rfl fun cdv A outer s H E hgd hr => ?_
  exact (mss_one (ms_if (mt_not (mt_val (me_call G_is_finder (hr.mono (by first | decide | omega)) rfl (ma_cons (me_var 0) ma_nil)))) (mss_one (ms_raiseE Er (by decide) rfl (takes_of rfl rfl rfl rfl) hgd (hr.mono (by first | decide | omega)) rfl (me_var 0))) mss_nil))
abbrev s_step_text : Stmt := topS 36
theorem sc_step_text : FnScope ["step", "words", "axis", "tag", "marks", "text", "has", "nth", "mark", "one"] ["step"] (defScope s_step_text) := ⟨rfl, rfl, rfl, by decide +kernel, rfl, by decide +kernel, by decide +kernel⟩
def b_step_text : S := seqS (asgS (getL 0) (tupG 6 (consG (nameG 2) (consG (nameG 3) (consG (nameG 4) (consG (nameG 5) (consG (nameG 6) (consG (nameG 7) (nilG)))))))))
  (seqS (setS 1 (lstN (consA (getL 2) (consA (orV (getL 3) (cst (c_ANY))) (starA (lcV (itV (getL 4)) (nameG 8) (yesT) (fsV [cst (.str [46]), fmtV (getL 8)]) [8]) (starA (lcV (itV (getL 5)) (nameG 9) (yesT) (fsV [cst (.str [61]), fmtV (getL 9)]) [9]) (nilA)))))))
  (seqS (ifS (toTB (op2 neD (getL 6) (tupV (nilA)))) (exprS (appV (getL 1) (consA (fsV [cst (.str [126]), fmtV (orV (op2 ixD (getL 6) (cst (.int 0))) (cst (c_ANY))), cst (.str [61]), fmtV (op2 ixD (getL 6) (cst (.int 1)))]) (nilA)))) (nextS))
  (retS (strMV joinD (cst (.str [32])) (ifV (toTB (op2 gtD (getL 7) (cst (.int 0)))) (lstV (starA (getL 1) (consA (fsV [cst (.str [35]), fmtV (getL 7)]) (nilA)))) (getL 1))))))
def m_step_text : List D → M D := bodyM 1 10 b_step_text
theorem ok_step_text {P : Program} {w : World} {K : PySem.W.Frag} {mg : Str → Option Value} {base : Heap} {f : Addr} {fd : FuncData} (T : Glo K mg) (F : Fun K "step_text" "step_text" s_step_text f fd) (hm : mg "step_text" = some (.ref f)) (b : Binds K fd ["step"] [])  :
    Fn0 P w K mg base 1 "step_text" m_step_text := by
  have nd := sc_step_text.nd
  refine Fn0.make F hm sc_step_text b rfl rfl fun cdv A outer s H E hr => ?_
  exact (mss_cons (ms_asg (me_var 0) (mg_tup 6 rfl (mgs_cons (mg_name 2 nd) (mgs_cons (mg_name 3 nd) (mgs_cons (mg_name 4 nd) (mgs_cons (mg_name 5 nd) (mgs_cons (mg_name 6 nd) (mgs_cons (mg_name 7 nd) mgs_nil))))))))
    (mss_cons (ms_set 1 nd (me_lstN (ma_cons (me_var 2) (ma_cons (me_or (me_var 3) (me_one (me_const T.c_ANY rfl))) (ma_star (me_lc [("mark", 8)] [8] rfl nd (mi_of (me_var 4)) (blkOk_by (N := ["step", "words", "axis", "tag", "marks", "text", "has", "nth", "mark", "one"]) (sc := defScope s_step_text) (own := [("mark", 8)]) (by decide +kernel)) (fun _ _ _ _ _ => (mg_name 8 nd)) (fun _ _ _ _ _ => mts_nil) (fun _ _ _ _ _ => (me_fstr (mj_cons (me_str [46]) (mj_cons (me_fmt (me_var 8)) mj_nil))))) (ma_star (me_lc [("one", 9)] [9] rfl nd (mi_of (me_var 5)) (blkOk_by (N := ["step", "words", "axis", "tag", "marks", "text", "has", "nth", "mark", "one"]) (sc := defScope s_step_text) (own := [("one", 9)]) (by decide +kernel)) (fun _ _ _ _ _ => (mg_name 9 nd)) (fun _ _ _ _ _ => mts_nil) (fun _ _ _ _ _ => (me_fstr (mj_cons (me_str [61]) (mj_cons (me_fmt (me_var 9)) mj_nil))))) ma_nil))))))
    (mss_cons (ms_if (mt_cmp (om_ne hr.units) (me_var 6) (me_tup ma_nil) (nomark _)) (mss_one (ms_expr (me_append (me_var 1) (ma_cons (me_fstr (mj_cons (me_str [126]) (mj_cons (me_fmt (me_or (me_ix (me_var 6) me_int) (me_one (me_const T.c_ANY rfl)))) (mj_cons (me_str [61]) (mj_cons (me_fmt (me_ix (me_var 6) me_int)) mj_nil))))) ma_nil)))) mss_nil)
    (mss_one (ms_ret (me_join (me_str [32]) (me_ifExp (mt_cmp om_gt (me_var 7) me_int (nomark _)) (me_lst (ma_star (me_var 1) (ma_cons (me_fstr (mj_cons (me_str [35]) (mj_cons (me_fmt (me_var 7)) mj_nil))) ma_nil))) (me_var 1))))))))
abbrev s_finder_text : Stmt := topS 37
theorem sc_finder_text : FnScope ["finder", "step"] ["finder"] (defScope s_finder_text) := ⟨rfl, rfl, rfl, by decide +kernel, rfl, by decide +kernel, by decide +kernel⟩
def b_finder_text : S := retS (strMV joinD (cst (c_STEP_JOINT)) (lcV (itV (getL 0)) (nameG 1) (yesT) (callF m_step_text (consA (getL 1) (nilA))) [1]))
def m_finder_text : List D → M D := bodyM 1 2 b_finder_text
theorem ok_finder_text {P : Program} {w : World} {K : PySem.W.Frag} {mg : Str → Option Value} {base : Heap} {f : Addr} {fd : FuncData} (T : Glo K mg) (F : Fun K "finder_text" "finder_text" s_finder_text f fd) (hm : mg "finder_text" = some (.ref f)) (b : Binds K fd ["finder"] []) (G_step_text : Fn0 P w K mg base 1 "step_text" m_step_text) :
    Fn0 P w K mg base 2 "finder_text" m_finder_text := by
  have nd := sc_finder_text.nd
  refine Fn0.make F hm sc_finder_text b rfl rfl fun cdv A outer s H E hr => ?_
  exact (mss_one (ms_ret (me_join (me_const T.c_STEP_JOINT rfl) (me_lc [("step", 1)] [1] rfl nd (mi_of (me_var 0)) (blkOk_by (N := ["finder", "step"]) (sc := defScope s_finder_text) (own := [("step", 1)]) (by decide +kernel)) (fun _ _ _ _ _ => (mg_name 1 nd)) (fun _ _ _ _ _ => mts_nil) (fun _ _ _ _ _ => (me_call G_step_text (hr.mono (by first | decide | omega)) rfl (ma_cons (me_var 1) ma_nil)))))))
abbrev s_show_finder : Stmt := topS 38
theorem sc_show_finder : FnScope ["finder"] ["finder"] (defScope s_show_finder) := ⟨rfl, rfl, rfl, by decide +kernel, rfl, by decide +kernel, by decide +kernel⟩
def b_show_finder : S := seqS (exprS (callX m_check_finder (consA (getL 0) (nilA))))
  (retS (callF m_finder_text (consA (getL 0) (nilA))))
def m_show_finder : List D → M D := bodyM 1 1 b_show_finder
theorem ok_show_finder {P : Program} {w : World} {K : PySem.W.Frag} {mg : Str → Option Value} {base : Heap} {f : Addr} {fd : FuncData} (T : Glo K mg) (F : Fun K "show_finder" "show_finder" s_show_finder f fd) (hm : mg "show_finder" = some (.ref f)) (b : Binds K fd ["finder"] []) (G_check_finder : Fn1G P w K mg base 6 "check_finder" m_check_finder) (G_finder_text : Fn0 P w K mg base 2 "finder_text" m_finder_text) :
    Fn1G P w K mg base 7 "show_finder" m_show_finder := by
  have nd := sc_show_finder.nd
  refine Fn1G.make F hm sc_show_finder b rfl rfl fun cdv A outer s H E hgd hr => ?_
  exact (mss_cons (ms_expr (me_callXG G_check_finder (takes_of rfl rfl rfl rfl) hgd (hr.mono (by first | decide | omega)) rfl (ma_cons (me_var 0) ma_nil)))
    (mss_one (ms_ret (me_call G_finder_text (hr.mono (by first | decide | omega)) rfl (ma_cons (me_var 0) ma_nil)))))
abbrev s_tag_of : Stmt := topS 39
theorem sc_tag_of : FnScope ["word"] ["word"] (defScope s_tag_of) := ⟨rfl, rfl, rfl, by decide +kernel, rfl, by decide +kernel, by decide +kernel⟩
def b_tag_of : S := retS (ifV (toTB (op2 eqD (getL 0) (cst (c_ANY)))) (cst (.str [])) (getL 0))
def m_tag_of : List D → M D := bodyM 1 1 b_tag_of
theorem ok_tag_of {P : Program} {w : World} {K : PySem.W.Frag} {mg : Str → Option Value} {base : Heap} {f : Addr} {fd : FuncData} (T : Glo K mg) (F : Fun K "tag_of" "tag_of" s_tag_of f fd) (hm : mg "tag_of" = some (.ref f)) (b : Binds K fd ["word"] [])  :
    Fn0 P w K mg base 1 "tag_of" m_tag_of := by
  have nd := sc_tag_of.nd
  refine Fn0.make F hm sc_tag_of b rfl rfl fun cdv A outer s H E hr => ?_
  exact (mss_one (ms_ret (me_ifExp (mt_cmp (om_eq hr.units) (me_var 0) (me_const T.c_ANY rfl) (nomark _)) (me_str []) (me_var 0))))
abbrev s_step_of : Stmt := topS 40
theorem sc_step_of : FnScope ["text", "words", "word", "marks", "sought", "has", "nth"] ["text"] (defScope s_step_of) := ⟨rfl, rfl, rfl, by decide +kernel, rfl, by decide +kernel, by decide +kernel⟩
def b_step_of : S := seqS (setS 1 (strMV splitD (getL 0) (cst (.str [32]))))
  (seqS (ifS (toTB (op2 ltD (callV lenD (consA (getL 1) (nilA))) (cst (.int 2)))) (retS (cst .non)) (nextS))
  (seqS (asgS (tupV (consA (lstN (nilA)) (consA (tupV (nilA)) (consA (tupV (nilA)) (consA (cst (.int 0)) (nilA)))))) (tupG 4 (consG (nameG 3) (consG (nameG 4) (consG (nameG 5) (consG (nameG 6) (nilG)))))))
  (seqS (forS (itV (slV (getL 1) (someO (cst (.int 2))) noO)) (nameG 2) (ifS (toTB (op2 eqD (slV (getL 2) noO (someO (cst (.int 1)))) (cst (.str [46])))) (exprS (appV (getL 3) (consA (slV (getL 2) (someO (cst (.int 1))) noO) (nilA)))) (ifS (toTB (op2 eqD (slV (getL 2) noO (someO (cst (.int 1)))) (cst (.str [61])))) (setS 4 (tupV (consA (slV (getL 2) (someO (cst (.int 1))) noO) (nilA)))) (ifS (andT (toTB (op2 eqD (slV (getL 2) noO (someO (cst (.int 1)))) (cst (.str [126])))) (toTB (op2 inD (cst (.str [61])) (getL 2)))) (setS 5 (tupV (consA (callF m_tag_of (consA (slV (getL 2) (someO (cst (.int 1))) (someO (strMV indexD (getL 2) (cst (.str [61]))))) (nilA))) (consA (slV (getL 2) (someO (op2 addD (strMV indexD (getL 2) (cst (.str [61]))) (cst (.int 1)))) noO) (nilA))))) (ifS (toTB (op2 inD (getL 2) (tupV (consA (cst (.str [35, 49])) (consA (cst (.str [35, 50])) (consA (cst (.str [35, 51])) (nilA))))))) (setS 6 (callV intTD (consA (slV (getL 2) (someO (cst (.int 1))) noO) (nilA)))) (nextS))))))
  (retS (tupV (consA (op2 ixD (getL 1) (cst (.int 0))) (consA (callF m_tag_of (consA (op2 ixD (getL 1) (cst (.int 1))) (nilA))) (consA (callV tupleD (consA (getL 3) (nilA))) (consA (getL 4) (consA (getL 5) (consA (getL 6) (nilA))))))))))))
def m_step_of : List D → M D := bodyM 1 7 b_step_of
theorem ok_step_of {P : Program} {w : World} {K : PySem.W.Frag} {mg : Str → Option Value} {base : Heap} {f : Addr} {fd : FuncData} (T : Glo K mg) (F : Fun K "step_of" "step_of" s_step_of f fd) (hm : mg "step_of" = some (.ref f)) (b : Binds K fd ["text"] []) (G_tag_of : Fn0 P w K mg base 1 "tag_of" m_tag_of) :
    Fn0 P w K mg base 2 "step_of" m_step_of := by
  have nd := sc_step_of.nd
  refine Fn0.make F hm sc_step_of b rfl rfl fun cdv A outer s H E hr => ?_
  exact (mss_cons (ms_set 1 nd (me_split (me_var 0) (me_str [32])))
    (mss_cons (ms_if (mt_cmp om_lt (me_callB (cm_len) rfl T.b_len (by decide +kernel) (ma_cons (me_var 1) ma_nil)) me_int (nomark _)) (mss_one (ms_ret me_non)) mss_nil)
    (mss_cons (ms_asg (me_tup (ma_cons (me_lstN ma_nil) (ma_cons (me_tup ma_nil) (ma_cons (me_tup ma_nil) (ma_cons me_int ma_nil))))) (mg_tup 4 rfl (mgs_cons (mg_name 3 nd) (mgs_cons (mg_name 4 nd) (mgs_cons (mg_name 5 nd) (mgs_cons (mg_name 6 nd) mgs_nil))))))
    (mss_cons (ms_for PassesOwn.never rfl (mi_of (me_slice (me_var 1) (mo_some me_int) mo_none)) (mg_name 2 nd) (mss_one (ms_if (mt_cmp (om_eq hr.units) (me_slice (me_var 2) mo_none (mo_some me_int)) (me_str [46]) (nomark _)) (mss_one (ms_expr (me_append (me_var 3) (ma_cons (me_slice (me_var 2) (mo_some me_int) mo_none) ma_nil)))) (mss_one (ms_if (mt_cmp (om_eq hr.units) (me_slice (me_var 2) mo_none (mo_some me_int)) (me_str [61]) (nomark _)) (mss_one (ms_set 4 nd (me_tup (ma_cons (me_slice (me_var 2) (mo_some me_int) mo_none) ma_nil)))) (mss_one (ms_if (MW.mt (mw_and (mt_cmp (om_eq hr.units) (me_slice (me_var 2) mo_none (mo_some me_int)) (me_str [126]) (nomark _)) (mw_and1 (mt_cmp om_in (me_str [61]) (me_var 2) rfl)))) (mss_one (ms_set 5 nd (me_tup (ma_cons (me_call G_tag_of (hr.mono (by first | decide | omega)) rfl (ma_cons (me_slice (me_var 2) (mo_some me_int) (mo_some (me_index (me_var 2) (me_str [61])))) ma_nil)) (ma_cons (me_slice (me_var 2) (mo_some (me_op om_add (me_index (me_var 2) (me_str [61])) me_int)) mo_none) ma_nil))))) (mss_one (ms_if (mt_cmp om_in (me_var 2) (me_tup (ma_cons (me_str [35, 49]) (ma_cons (me_str [35, 50]) (ma_cons (me_str [35, 51]) ma_nil)))) rfl) (mss_one (ms_set 6 nd (me_callTy cm_intT rfl T.b_int (by decide +kernel) (ma_cons (me_slice (me_var 2) (mo_some me_int) mo_none) ma_nil)))) mss_nil)))))))))
    (mss_one (ms_ret (me_tup (ma_cons (me_ix (me_var 1) me_int) (ma_cons (me_call G_tag_of (hr.mono (by first | decide | omega)) rfl (ma_cons (me_ix (me_var 1) me_int) ma_nil)) (ma_cons (me_callTy cm_tuple rfl T.b_tuple (by decide +kernel) (ma_cons (me_var 3) ma_nil)) (ma_cons (me_var 4) (ma_cons (me_var 5) (ma_cons (me_var 6) ma_nil)))))))))))))
abbrev s_finder_of : Stmt := topS 41
theorem sc_finder_of : FnScope ["text", "steps", "part"] ["text"] (defScope s_finder_of) := ⟨rfl, rfl, rfl, by decide +kernel, rfl, by decide +kernel, by decide +kernel⟩
def b_finder_of : S := seqS (setS 1 (callV tupleD (consA (lcV (itV (strMV splitD (getL 0) (cst (c_STEP_JOINT)))) (nameG 2) (yesT) (callF m_step_of (consA (getL 2) (nilA))) [2]) (nilA))))
  (retS (ifV (andT (toT (callF m_is_finder (consA (getL 1) (nilA)))) (toTB (op2 eqD (callF m_finder_text (consA (getL 1) (nilA))) (getL 0)))) (getL 1) (cst .non)))
def m_finder_of : List D → M D := bodyM 1 3 b_finder_of
theorem ok_finder_of {P : Program} {w : World} {K : PySem.W.Frag} {mg : Str → Option Value} {base : Heap} {f : Addr} {fd : FuncData} (T : Glo K mg) (F : Fun K "finder_of" "finder_of" s_finder_of f fd) (hm : mg "finder_of" = some (.ref f)) (b : Binds K fd ["text"] []) (G_step_of : Fn0 P w K mg base 2 "step_of" m_step_of) (G_is_finder : Fn0 P w K mg base 5 "is_finder" m_is_finder) (G_finder_text : Fn0 P w K mg base 2 "finder_text" m_finder_text) :
    Fn0 P w K mg base 6 "finder_of" m_finder_of := by
  have nd := sc_finder_of.nd
  refine Fn0.make F hm sc_finder_of b rfl rfl fun cdv A outer s H E hr => ?_
  exact (mss_cons (ms_set 1 nd (me_callTy cm_tuple rfl T.b_tuple (by decide +kernel) (ma_cons (me_lc [("part", 2)] [2] rfl nd (mi_of (me_split (me_var 0) (me_const T.c_STEP_JOINT rfl))) (blkOk_by (N := ["text", "steps", "part"]) (sc := defScope s_finder_of) (own := [("part", 2)]) (by decide +kernel)) (fun _ _ _ _ _ => (mg_name 2 nd)) (fun _ _ _ _ _ => mts_nil) (fun _ _ _ _ _ => (me_call G_step_of (hr.mono (by first | decide | omega)) rfl (ma_cons (me_var 2) ma_nil)))) ma_nil)))
    (mss_one (ms_ret (me_ifExp (MW.mt (mw_and (mt_val (me_call G_is_finder (hr.mono (by first | decide | omega)) rfl (ma_cons (me_var 1) ma_nil))) (mw_and1 (mt_cmp (om_eq hr.units) (me_call G_finder_text (hr.mono (by first | decide | omega)) rfl (ma_cons (me_var 1) ma_nil)) (me_var 0) (nomark _))))) (me_var 1) me_non))))
abbrev s_read_finder : Stmt := topS 42
theorem sc_read_finder : FnScope ["text", "found"] ["text"] (defScope s_read_finder) := ⟨rfl, rfl, rfl, by decide +kernel, rfl, by decide +kernel, by decide +kernel⟩
def b_read_finder : S := seqS (setS 1 (ifV (toT (callV isiD (consA (getL 0) (consA (cst (.ty "str")) (nilA))))) (callF m_finder_of (consA (getL 0) (nilA))) (cst .non)))
  (seqS (ifS (toTB (op2 isD (getL 1) (cst .non))) (raiseS "BadText" (getL 0)) (nextS))
  (retS (getL 1)))
def m_read_finder : List D → M D := bodyM 1 2 b_read_finder
theorem ok_read_finder {P : Program} {w : World} {K : PySem.W.Frag} {mg : Str → Option Value} {base : Heap} {f : Addr} {fd : FuncData} (T : Glo K mg) (F : Fun K "read_finder" "read_finder" s_read_finder f fd) (hm : mg "read_finder" = some (.ref f)) (b : Binds K fd ["text"] []) (Er : ErrG K mg P errNames) (G_finder_of : Fn0 P w K mg base 6 "finder_of" m_finder_of) :
    Fn1G P w K mg base 7 "read_finder" m_read_finder := by
  have nd := sc_read_finder.nd
  refine Fn1G.make F hm sc_read_finder b rfl rfl fun cdv A outer s H E hgd hr => ?_
  exact (mss_cons (ms_set 1 nd (me_ifExp (mt_val (me_callB (cm_isi) rfl T.b_isinstance (by decide +kernel) (ma_cons (me_var 0) (ma_cons (me_ty "str" rfl T.b_str (by decide +kernel)) ma_nil)))) (me_call G_finder_of (hr.mono (by first | decide | omega)) rfl (ma_cons (me_var 0) ma_nil)) me_non))
    (mss_cons (ms_if (mt_cmp om_is (me_var 1) me_non (nomark _)) (mss_one (ms_raiseE Er (by decide) rfl (takes_of rfl rfl rfl rfl) hgd (hr.mono (by first | decide | omega)) rfl (me_var 0))) mss_nil)
    (mss_one (ms_ret (me_var 1)))))
abbrev s_law_pot : Stmt := topS 44
theorem sc_law_pot : FnScope ["_law_script", "_law_k", "_law_cell", "_law_own"] ["_law_script", "_law_k"] (defScope s_law_pot) := ⟨rfl, rfl, rfl, by decide +kernel, rfl, by decide +kernel, by decide +kernel⟩
def b_law_pot : S := seqS (setS 2 (ifV (toTB (op2 ltD (getL 1) (callV lenD (consA (getL 0) (nilA))))) (op2 ixD (getL 0) (getL 1)) (op2 addD (op2 mulD (cst (.int 135)) (getL 1)) (cst (.int 70)))))
  (seqS (setS 3 (op2 mulD (op2 modD (callV intTD (consA (callV absD (consA (getL 2) (nilA))) (nilA))) (op2 powD' (op2 powD' (cst (.int 10)) (cst (.int 60))) (cst (.int 5)))) (callV intTD (consA (op2 geD (callV absD (consA (getL 2) (nilA))) (op2 powD' (cst (.int 10)) (cst (.int 18)))) (nilA)))))
  (retS (lstN (consA (getL 3) (consA (op2 modD (callV intTD (consA (op2 addD (op2 addD (op2 mulD (op2 modD (callV intTD (consA (getL 2) (nilA))) (cst (.int 2305843009213693951))) (cst (.int 68247))) (op2 mulD (op2 mulD (cst (.int 5231)) (getL 1)) (getL 1))) (cst (.int 37))) (nilA))) (cst (.int 2305843009213693921))) (consA (cst (.int 0)) (nilA)))))))
def m_law_pot : List D → M D := bodyM 2 4 b_law_pot
theorem ok_law_pot {P : Program} {w : World} {K : PySem.W.Frag} {mg : Str → Option Value} {base : Heap} {f : Addr} {fd : FuncData} (T : Glo K mg) (F : Fun K "_law_pot" "_law_pot" s_law_pot f fd) (hm : mg "_law_pot" = some (.ref f)) (b : Binds K fd ["_law_script", "_law_k"] [])  :
    Fn0 P w K mg base 1 "_law_pot" m_law_pot := by
  have nd := sc_law_pot.nd
  refine Fn0.make F hm sc_law_pot b rfl rfl fun cdv A outer s H E hr => ?_
  exact (mss_cons (ms_set 2 nd (me_ifExp (mt_cmp om_lt (me_var 1) (me_callB (cm_len) rfl T.b_len (by decide +kernel) (ma_cons (me_var 0) ma_nil)) (nomark _)) (me_ix (me_var 0) (me_var 1)) (me_op om_add (me_op om_mul me_int (me_var 1)) me_int)))
    (mss_cons (ms_set 3 nd (me_op om_mul (me_op om_mod (me_callTy cm_intT rfl T.b_int (by decide +kernel) (ma_cons (me_callB (cm_abs) rfl T.b_abs (by decide +kernel) (ma_cons (me_var 2) ma_nil)) ma_nil)) (me_op om_pow' (me_op om_pow' me_int me_int) me_int)) (me_callTy cm_intT rfl T.b_int (by decide +kernel) (ma_cons (me_cmp om_ge (me_callB (cm_abs) rfl T.b_abs (by decide +kernel) (ma_cons (me_var 2) ma_nil)) (me_op om_pow' me_int me_int) (nomark _)) ma_nil))))
    (mss_one (ms_ret (me_lstN (ma_cons (me_var 3) (ma_cons (me_op om_mod (me_callTy cm_intT rfl T.b_int (by decide +kernel) (ma_cons (me_op om_add (me_op om_add (me_op om_mul (me_op om_mod (me_callTy cm_intT rfl T.b_int (by decide +kernel) (ma_cons (me_var 2) ma_nil)) me_int) me_int) (me_op om_mul (me_op om_mul me_int (me_var 1)) (me_var 1))) me_int) ma_nil)) me_int) (ma_cons me_int ma_nil))))))))
abbrev s_law_take : Stmt := topS 45
theorem sc_law_take : FnScope ["_law_pot_here", "_law_upto", "_law_prime", "_law_mixed", "_law_digit"] ["_law_pot_here", "_law_upto"] (defScope s_law_take) := ⟨rfl, rfl, rfl, by decide +kernel, rfl, by decide +kernel, by decide +kernel⟩
def b_law_take : S := seqS (ifS (toTB (op2 gtD (op2 ixD (getL 0) (cst (.int 0))) (cst (.int 0)))) (seqS (setS 4 (op2 modD (callV intTD (consA (op2 ixD (getL 0) (cst (.int 0))) (nilA))) (getL 1)))
  (seqS (putS (op2 fdivD (op2 ixD (getL 0) (cst (.int 0))) (getL 1)) (getL 0) (cst (.int 0)))
  (retS (getL 4)))) (nextS))
  (seqS (putS (op2 addD (op2 ixD (getL 0) (cst (.int 2))) (cst (.int 1))) (getL 0) (cst (.int 2)))
  (seqS (setS 2 (op2 ixD (lstV (consA (cst (.int 2147483647)) (consA (cst (.int 2147483629)) (consA (cst (.int 2147483587)) (consA (cst (.int 2147483579)) (consA (cst (.int 2147483563)) (nilA))))))) (op2 modD (callV intTD (consA (op2 ixD (getL 0) (cst (.int 2))) (nilA))) (cst (.int 5)))))
  (seqS (setS 3 (op2 modD (callV intTD (consA (op2 powD' (callV intTD (consA (op2 addD (op2 addD (op2 ixD (getL 0) (cst (.int 1))) (op2 mulD (op2 mulD (cst (.int 90413)) (op2 ixD (getL 0) (cst (.int 2)))) (op2 ixD (getL 0) (cst (.int 2))))) (cst (.int 137))) (nilA))) (cst (.int 3))) (nilA))) (getL 2)))
  (retS (op2 modD (callV intTD (consA (op2 fdivD (op2 mulD (getL 3) (op2 addD (op2 modD (callV intTD (consA (getL 3) (nilA))) (cst (.int 10007))) (op2 mulD (cst (.int 97)) (op2 ixD (getL 0) (cst (.int 2)))))) (cst (.int 103))) (nilA))) (getL 1))))))
def m_law_take : List D → M D := bodyM 2 5 b_law_take
theorem ok_law_take {P : Program} {w : World} {K : PySem.W.Frag} {mg : Str → Option Value} {base : Heap} {f : Addr} {fd : FuncData} (T : Glo K mg) (F : Fun K "_law_take" "_law_take" s_law_take f fd) (hm : mg "_law_take" = some (.ref f)) (b : Binds K fd ["_law_pot_here", "_law_upto"] [])  :
    Fn0 P w K mg base 1 "_law_take" m_law_take := by
  have nd := sc_law_take.nd
  refine Fn0.make F hm sc_law_take b rfl rfl fun cdv A outer s H E hr => ?_
  exact (mss_cons (ms_if (mt_cmp om_gt (me_ix (me_var 0) me_int) me_int (nomark _)) (mss_cons (ms_set 4 nd (me_op om_mod (me_callTy cm_intT rfl T.b_int (by decide +kernel) (ma_cons (me_ix (me_var 0) me_int) ma_nil)) (me_var 1)))
    (mss_cons (ms_put (me_op om_fdiv (me_ix (me_var 0) me_int) (me_var 1)) (me_var 0) me_int)
    (mss_one (ms_ret (me_var 4))))) mss_nil)
    (mss_cons (ms_put (me_op om_add (me_ix (me_var 0) me_int) me_int) (me_var 0) me_int)
    (mss_cons (ms_set 2 nd (me_ix (me_lst (ma_cons me_int (ma_cons me_int (ma_cons me_int (ma_cons me_int (ma_cons me_int ma_nil)))))) (me_op om_mod (me_callTy cm_intT rfl T.b_int (by decide +kernel) (ma_cons (me_ix (me_var 0) me_int) ma_nil)) me_int)))
    (mss_cons (ms_set 3 nd (me_op om_mod (me_callTy cm_intT rfl T.b_int (by decide +kernel) (ma_cons (me_op om_pow' (me_callTy cm_intT rfl T.b_int (by decide +kernel) (ma_cons (me_op om_add (me_op om_add (me_ix (me_var 0) me_int) (me_op om_mul (me_op om_mul me_int (me_ix (me_var 0) me_int)) (me_ix (me_var 0) me_int))) me_int) ma_nil)) me_int) ma_nil)) (me_var 2)))
    (mss_one (ms_ret (me_op om_mod (me_callTy cm_intT rfl T.b_int (by decide +kernel) (ma_cons (me_op om_fdiv (me_op om_mul (me_var 3) (me_op om_add (me_op om_mod (me_callTy cm_intT rfl T.b_int (by decide +kernel) (ma_cons (me_var 3) ma_nil)) me_int) (me_op om_mul me_int (me_ix (me_var 0) me_int)))) me_int) ma_nil)) (me_var 1))))))))
abbrev s_law_of : Stmt := topS 46
theorem sc_law_of : FnScope ["_law_pot_here", "_law_some"] ["_law_pot_here", "_law_some"] (defScope s_law_of) := ⟨rfl, rfl, rfl, by decide +kernel, rfl, by decide +kernel, by decide +kernel⟩
def b_law_of : S := retS (op2 ixD (getL 1) (callF m_law_take (consA (getL 0) (consA (callV lenD (consA (getL 1) (nilA))) (nilA)))))
def m_law_of : List D → M D := bodyM 2 2 b_law_of
theorem ok_law_of {P : Program} {w : World} {K : PySem.W.Frag} {mg : Str → Option Value} {base : Heap} {f : Addr} {fd : FuncData} (T : Glo K mg) (F : Fun K "_law_of" "_law_of" s_law_of f fd) (hm : mg "_law_of" = some (.ref f)) (b : Binds K fd ["_law_pot_here", "_law_some"] []) (G_law_take : Fn0 P w K mg base 1 "_law_take" m_law_take) :
    Fn0 P w K mg base 2 "_law_of" m_law_of := by
  have nd := sc_law_of.nd
  refine Fn0.make F hm sc_law_of b rfl rfl fun cdv A outer s H E hr => ?_
  exact (mss_one (ms_ret (me_ix (me_var 1) (me_call G_law_take (hr.mono (by first | decide | omega)) rfl (ma_cons (me_var 0) (ma_cons (me_callB (cm_len) rfl T.b_len (by decide +kernel) (ma_cons (me_var 1) ma_nil)) ma_nil))))))
abbrev s_law_sought : Stmt := topS 47
theorem sc_law_sought : FnScope ["_law_pot_here", "_law_texts"] ["_law_pot_here", "_law_texts"] (defScope s_law_sought) := ⟨rfl, rfl, rfl, by decide +kernel, rfl, by decide +kernel, by decide +kernel⟩
def b_law_sought : S := retS (ifV (toTB (op2 eqD (callF m_law_take (consA (getL 0) (consA (cst (.int 3)) (nilA)))) (cst (.int 0)))) (tupV (consA (callF m_law_of (consA (getL 0) (consA (getL 1) (nilA)))) (nilA))) (tupV (nilA)))
def m_law_sought : List D → M D := bodyM 2 2 b_law_sought
theorem ok_law_sought {P : Program} {w : World} {K : PySem.W.Frag} {mg : Str → Option Value} {base : Heap} {f : Addr} {fd : FuncData} (T : Glo K mg) (F : Fun K "_law_sought" "_law_sought" s_law_sought f fd) (hm : mg "_law_sought" = some (.ref f)) (b : Binds K fd ["_law_pot_here", "_law_texts"] []) (G_law_take : Fn0 P w K mg base 1 "_law_take" m_law_take) (G_law_of : Fn0 P w K mg base 2 "_law_of" m_law_of) :
    Fn0 P w K mg base 3 "_law_sought" m_law_sought := by
  have nd := sc_law_sought.nd
  refine Fn0.make F hm sc_law_sought b rfl rfl fun cdv A outer s H E hr => ?_
  exact (mss_one (ms_ret (me_ifExp (mt_cmp (om_eq hr.units) (me_call G_law_take (hr.mono (by first | decide | omega)) rfl (ma_cons (me_var 0) (ma_cons me_int ma_nil))) me_int (nomark _)) (me_tup (ma_cons (me_call G_law_of (hr.mono (by first | decide | omega)) rfl (ma_cons (me_var 0) (ma_cons (me_var 1) ma_nil))) ma_nil)) (me_tup ma_nil))))
abbrev s_law_finder : Stmt := topS 48
theorem sc_law_finder : FnScope ["_law_pot_here", "_law_loops", "_law_steps", "_law_lap", "_law_many", "_law_spot", "_law_at", "_law_texts", "_law_found", "_law_nth", "_law_axis", "_law_marks", "_law_has", "_law_tag", "_law_text", "_law_name"] ["_law_pot_here", "_law_loops", "_law_steps"] (defScope s_law_finder) := ⟨rfl, rfl, rfl, by decide +kernel, rfl, by decide +kernel, by decide +kernel⟩
def b_law_finder : S := seqS (par3S 7 8 9 (consA (lstN (nilA)) (consA (lstN (nilA)) (consA (callF m_law_of (consA (getL 0) (consA (lstV (consA (cst (.int 0)) (consA (cst (.int 0)) (consA (cst (.int 1)) (consA (cst (.int 2)) (consA (cst (.int 3)) (nilA))))))) (nilA)))) (nilA)))))
  (seqS (forS (argsV rng1 (consA (cst (.int 3)) (nilA))) (nameG 3) (exprS (appV (getL 7) (consA (callF m_law_of (consA (getL 0) (consA (op2 addD (lcV (itV (getL 1)) (nameG 15) (yesT) (op2 addD (op2 addD (cst (.str [123])) (getL 15)) (cst (.str [125]))) [15]) (lstV (consA (cst (.str [80, 97, 121])) (consA (cst (.str [97])) (consA (cst (.str [82, 101, 109, 111, 118, 101])) (consA (cst (.str [120])) (nilA))))))) (nilA)))) (nilA)))))
  (seqS (setS 4 (op2 addD (cst (.int 1)) (callF m_law_take (consA (getL 0) (consA (getL 2) (nilA))))))
  (seqS (setS 5 (callF m_law_take (consA (getL 0) (consA (getL 4) (nilA)))))
  (seqS (forS (argsV rng1 (consA (getL 4) (nilA))) (nameG 6) (seqS (setS 10 (callF m_law_of (consA (getL 0) (consA (ifV (toTB (op2 gtD (getL 6) (cst (.int 0)))) (lstV (consA (cst (.str [98, 101, 108, 111, 119])) (consA (cst (.str [98, 101, 108, 111, 119])) (consA (cst (.str [99, 104, 105, 108, 100])) (consA (cst (.str [110, 101, 120, 116])) (nilA)))))) (lstV (consA (cst (.str [98, 101, 108, 111, 119])) (consA (cst (.str [98, 101, 108, 111, 119])) (consA (cst (.str [99, 104, 105, 108, 100])) (nilA)))))) (nilA)))))
  (seqS (setS 11 (callF m_law_of (consA (getL 0) (consA (lstV (consA (tupV (nilA)) (consA (tupV (nilA)) (consA (tupV (nilA)) (consA (tupV (consA (cst (.str [114, 101, 100])) (nilA))) (consA (tupV (consA (cst (.str [100, 111, 110, 101])) (nilA))) (consA (tupV (consA (cst (.str [98, 105, 103])) (consA (cst (.str [114, 101, 100])) (nilA)))) (nilA)))))))) (nilA)))))
  (seqS (parS 13 14 (consA (callF m_law_of (consA (getL 0) (consA (lstV (consA (cst (.str [])) (consA (cst (.str [114, 111, 119])) (consA (cst (.str [110, 97, 109, 101])) (consA (cst (.str [98, 117, 116, 116, 111, 110])) (nilA)))))) (nilA)))) (consA (callF m_law_sought (consA (getL 0) (consA (getL 7) (nilA)))) (nilA))))
  (seqS (setS 12 (ifV (toTB (op2 ltD (getL 6) (cst (.int 2)))) (op2 addD (tupV (consA (callF m_law_of (consA (getL 0) (consA (lstV (consA (cst (.str [])) (consA (cst (.str [110, 97, 109, 101])) (consA (cst (.str [114, 111, 119])) (nilA))))) (nilA)))) (nilA))) (callF m_law_sought (consA (getL 0) (consA (getL 7) (nilA))))) (tupV (nilA))))
  (exprS (appV (getL 8) (consA (tupV (consA (getL 10) (consA (getL 13) (consA (getL 11) (consA (getL 14) (consA (ifV (toTB (op2 eqD (callV lenD (consA (getL 12) (nilA))) (cst (.int 2)))) (getL 12) (tupV (nilA))) (consA (ifV (toTB (op2 eqD (getL 6) (getL 5))) (getL 9) (cst (.int 0))) (nilA)))))))) (nilA)))))))))
  (retS (callV tupleD (consA (getL 8) (nilA))))))))
def m_law_finder : List D → M D := bodyM 3 16 b_law_finder
theorem ok_law_finder {P : Program} {w : World} {K : PySem.W.Frag} {mg : Str → Option Value} {base : Heap} {f : Addr} {fd : FuncData} (T : Glo K mg) (F : Fun K "_law_finder" "_law_finder" s_law_finder f fd) (hm : mg "_law_finder" = some (.ref f)) (b : Binds K fd ["_law_pot_here", "_law_loops", "_law_steps"] []) (G_law_of : Fn0 P w K mg base 2 "_law_of" m_law_of) (G_law_take : Fn0 P w K mg base 1 "_law_take" m_law_take) (G_law_sought : Fn0 P w K mg base 3 "_law_sought" m_law_sought) :
    Fn0 P w K mg base 4 "_law_finder" m_law_finder := by
  have nd := sc_law_finder.nd
  refine Fn0.make F hm sc_law_finder b rfl rfl fun cdv A outer s H E hr => ?_
  exact (mss_cons (ms_par3 7 8 9 rfl nd (ma_cons (me_lstN ma_nil) (ma_cons (me_lstN ma_nil) (ma_cons (me_call G_law_of (hr.mono (by first | decide | omega)) rfl (ma_cons (me_var 0) (ma_cons (me_lst (ma_cons me_int (ma_cons me_int (ma_cons me_int (ma_cons me_int (ma_cons me_int ma_nil)))))) ma_nil))) ma_nil))))
    (mss_cons (ms_for PassesOwn.never rfl (mi_range1 rfl T.b_range (ma_cons me_int ma_nil)) (mg_name 3 nd) (mss_one (ms_expr (me_append (me_var 7) (ma_cons (me_call G_law_of (hr.mono (by first | decide | omega)) rfl (ma_cons (me_var 0) (ma_cons (me_op om_add (me_lc [("_law_name", 15)] [15] rfl nd (mi_of (me_var 1)) (blkOk_by (N := ["_law_pot_here", "_law_loops", "_law_steps", "_law_lap", "_law_many", "_law_spot", "_law_at", "_law_texts", "_law_found", "_law_nth", "_law_axis", "_law_marks", "_law_has", "_law_tag", "_law_text", "_law_name"]) (sc := defScope s_law_finder) (own := [("_law_name", 15)]) (by decide +kernel)) (fun _ _ _ _ _ => (mg_name 15 nd)) (fun _ _ _ _ _ => mts_nil) (fun _ _ _ _ _ => (me_op om_add (me_op om_add (me_str [123]) (me_var 15)) (me_str [125])))) (me_lst (ma_cons (me_str [80, 97, 121]) (ma_cons (me_str [97]) (ma_cons (me_str [82, 101, 109, 111, 118, 101]) (ma_cons (me_str [120]) ma_nil)))))) ma_nil))) ma_nil)))))
    (mss_cons (ms_set 4 nd (me_op om_add me_int (me_call G_law_take (hr.mono (by first | decide | omega)) rfl (ma_cons (me_var 0) (ma_cons (me_var 2) ma_nil)))))
    (mss_cons (ms_set 5 nd (me_call G_law_take (hr.mono (by first | decide | omega)) rfl (ma_cons (me_var 0) (ma_cons (me_var 4) ma_nil))))
    (mss_cons (ms_for PassesOwn.never rfl (mi_range1 rfl T.b_range (ma_cons (me_var 4) ma_nil)) (mg_name 6 nd) (mss_cons (ms_set 10 nd (me_call G_law_of (hr.mono (by first | decide | omega)) rfl (ma_cons (me_var 0) (ma_cons (me_ifExp (mt_cmp om_gt (me_var 6) me_int (nomark _)) (me_lst (ma_cons (me_str [98, 101, 108, 111, 119]) (ma_cons (me_str [98, 101, 108, 111, 119]) (ma_cons (me_str [99, 104, 105, 108, 100]) (ma_cons (me_str [110, 101, 120, 116]) ma_nil))))) (me_lst (ma_cons (me_str [98, 101, 108, 111, 119]) (ma_cons (me_str [98, 101, 108, 111, 119]) (ma_cons (me_str [99, 104, 105, 108, 100]) ma_nil))))) ma_nil))))
    (mss_cons (ms_set 11 nd (me_call G_law_of (hr.mono (by first | decide | omega)) rfl (ma_cons (me_var 0) (ma_cons (me_lst (ma_cons (me_tup ma_nil) (ma_cons (me_tup ma_nil) (ma_cons (me_tup ma_nil) (ma_cons (me_tup (ma_cons (me_str [114, 101, 100]) ma_nil)) (ma_cons (me_tup (ma_cons (me_str [100, 111, 110, 101]) ma_nil)) (ma_cons (me_tup (ma_cons (me_str [98, 105, 103]) (ma_cons (me_str [114, 101, 100]) ma_nil))) ma_nil))))))) ma_nil))))
    (mss_cons (ms_par 13 14 rfl nd (ma_cons (me_call G_law_of (hr.mono (by first | decide | omega)) rfl (ma_cons (me_var 0) (ma_cons (me_lst (ma_cons (me_str []) (ma_cons (me_str [114, 111, 119]) (ma_cons (me_str [110, 97, 109, 101]) (ma_cons (me_str [98, 117, 116, 116, 111, 110]) ma_nil))))) ma_nil))) (ma_cons (me_call G_law_sought (hr.mono (by first | decide | omega)) rfl (ma_cons (me_var 0) (ma_cons (me_var 7) ma_nil))) ma_nil)))
    (mss_cons (ms_set 12 nd (me_ifExp (mt_cmp om_lt (me_var 6) me_int (nomark _)) (me_op om_add (me_tup (ma_cons (me_call G_law_of (hr.mono (by first | decide | omega)) rfl (ma_cons (me_var 0) (ma_cons (me_lst (ma_cons (me_str []) (ma_cons (me_str [110, 97, 109, 101]) (ma_cons (me_str [114, 111, 119]) ma_nil)))) ma_nil))) ma_nil)) (me_call G_law_sought (hr.mono (by first | decide | omega)) rfl (ma_cons (me_var 0) (ma_cons (me_var 7) ma_nil)))) (me_tup ma_nil)))
    (mss_one (ms_expr (me_append (me_var 8) (ma_cons (me_tup (ma_cons (me_var 10) (ma_cons (me_var 13) (ma_cons (me_var 11) (ma_cons (me_var 14) (ma_cons (me_ifExp (mt_cmp (om_eq hr.units) (me_callB (cm_len) rfl T.b_len (by decide +kernel) (ma_cons (me_var 12) ma_nil)) me_int (nomark _)) (me_var 12) (me_tup ma_nil)) (ma_cons (me_ifExp (mt_cmp (om_eq hr.units) (me_var 6) (me_var 5) (nomark _)) (me_var 9) me_int) ma_nil))))))) ma_nil)))))))))
    (mss_one (ms_ret (me_callTy cm_tuple rfl T.b_tuple (by decide +kernel) (ma_cons (me_var 8) ma_nil)))))))))
abbrev s_law_caught : Stmt := topS 49
theorem sc_law_caught : FnScope ["_law_ask", "_law_caught_here", "error"] ["_law_ask"] (defScope s_law_caught) := ⟨rfl, rfl, rfl, by decide +kernel, rfl, by decide +kernel, by decide +kernel⟩
theorem cg_law_caught {K : PySem.W.Frag} {mg : Str → Option Value} {f : Addr} {fd : FuncData} (F : Fun K "_law_caught" "_law_caught" s_law_caught f fd) (hm : mg "_law_caught" = some (.ref f)) (b : L2.Binds K fd ["_law_ask"] []) : ∀ CS, mg "StillError" = some (.ref CS) → Cgt K mg CS :=
  fun CS h => ⟨⟨f, fd, s_law_caught, _, _, _, _, _, _, _, _, _, _, _, _, _, _, _, hm, F, b, sc_law_caught, rfl, rfl, rfl, rfl, rfl⟩, h⟩
abbrev s_law_odd : Stmt := topS 50
theorem sc_law_odd : FnScope ["_law_pot_here", "_law_some"] ["_law_pot_here"] (defScope s_law_odd) := ⟨rfl, rfl, rfl, by decide +kernel, rfl, by decide +kernel, by decide +kernel⟩
def b_law_odd : S := seqS (setS 1 (lstV (consA (cst .non) (consA (cst (.bl true)) (consA (cst (.bl false)) (consA (negV (cst (.int 1))) (consA (cst (.int 0)) (consA (cst (.int 99)) (consA (cst (.str [])) (consA (cst (.str [97])) (consA (cst (.str [65])) (consA (cst (.str [123, 97, 125])) (consA (tupV (nilA)) (consA (lstV (nilA)) (consA (cst .edict) (consA (tupV (consA (cst (.str [97])) (nilA))) (consA (lstV (consA (cst (.str [97])) (nilA))) (consA (tupV (consA (tupV (nilA)) (nilA))) (consA (cst (.str [98, 111, 120])) (consA (tupV (consA (cst (.str [98, 101, 108, 111, 119])) (nilA))) (nilA)))))))))))))))))))))
  (retS (callF m_law_of (consA (getL 0) (consA (getL 1) (nilA)))))
def m_law_odd : List D → M D := bodyM 1 2 b_law_odd
theorem ok_law_odd {P : Program} {w : World} {K : PySem.W.Frag} {mg : Str → Option Value} {base : Heap} {f : Addr} {fd : FuncData} (T : Glo K mg) (F : Fun K "_law_odd" "_law_odd" s_law_odd f fd) (hm : mg "_law_odd" = some (.ref f)) (b : Binds K fd ["_law_pot_here"] []) (G_law_of : Fn0 P w K mg base 2 "_law_of" m_law_of) :
    Fn0 P w K mg base 3 "_law_odd" m_law_odd := by
  have nd := sc_law_odd.nd
  refine Fn0.make F hm sc_law_odd b rfl rfl fun cdv A outer s H E hr => ?_
  exact (mss_cons (ms_set 1 nd (me_lst (ma_cons me_non (ma_cons me_bl (ma_cons me_bl (ma_cons (me_neg me_int) (ma_cons me_int (ma_cons me_int (ma_cons (me_str []) (ma_cons (me_str [97]) (ma_cons (me_str [65]) (ma_cons (me_str [123, 97, 125]) (ma_cons (me_tup ma_nil) (ma_cons (me_lst ma_nil) (ma_cons me_edict (ma_cons (me_tup (ma_cons (me_str [97]) ma_nil)) (ma_cons (me_lst (ma_cons (me_str [97]) ma_nil)) (ma_cons (me_tup (ma_cons (me_tup ma_nil) ma_nil)) (ma_cons (me_str [98, 111, 120]) (ma_cons (me_tup (ma_cons (me_str [98, 101, 108, 111, 119]) ma_nil)) ma_nil))))))))))))))))))))
    (mss_one (ms_ret (me_call G_law_of (hr.mono (by first | decide | omega)) rfl (ma_cons (me_var 0) (ma_cons (me_var 1) ma_nil))))))
abbrev s_law_step_text : Stmt := topS 51
theorem sc_law_step_text : FnScope ["_law_step", "_law_found", "_law_mark", "_law_axis", "_law_tag", "_law_marks", "_law_text", "_law_has", "_law_nth"] ["_law_step"] (defScope s_law_step_text) := ⟨rfl, rfl, rfl, by decide +kernel, rfl, by decide +kernel, by decide +kernel⟩
def b_law_step_text : S := seqS (asgS (getL 0) (tupG 6 (consG (nameG 3) (consG (nameG 4) (consG (nameG 5) (consG (nameG 6) (consG (nameG 7) (consG (nameG 8) (nilG)))))))))
  (seqS (setS 1 (op2 addD (op2 addD (getL 3) (cst (.str [32]))) (ifV (toTB (op2 eqD (getL 4) (cst (.str [])))) (cst (.str [42])) (getL 4))))
  (seqS (forS (itV (getL 5)) (nameG 2) (setS 1 (op2 addD (op2 addD (getL 1) (cst (.str [32, 46]))) (getL 2))))
  (seqS (ifS (toTB (op2 neD (getL 6) (tupV (nilA)))) (setS 1 (op2 addD (op2 addD (getL 1) (cst (.str [32, 61]))) (op2 ixD (getL 6) (cst (.int 0))))) (nextS))
  (seqS (ifS (toTB (op2 neD (getL 7) (tupV (nilA)))) (setS 1 (op2 addD (op2 addD (op2 addD (op2 addD (getL 1) (cst (.str [32, 126]))) (ifV (toTB (op2 eqD (op2 ixD (getL 7) (cst (.int 0))) (cst (.str [])))) (cst (.str [42])) (op2 ixD (getL 7) (cst (.int 0))))) (cst (.str [61]))) (op2 ixD (getL 7) (cst (.int 1))))) (nextS))
  (retS (op2 addD (getL 1) (ifV (toTB (op2 gtD (getL 8) (cst (.int 0)))) (op2 addD (cst (.str [32, 35])) (callV strD (consA (getL 8) (nilA)))) (cst (.str [])))))))))
def m_law_step_text : List D → M D := bodyM 1 9 b_law_step_text
theorem ok_law_step_text {P : Program} {w : World} {K : PySem.W.Frag} {mg : Str → Option Value} {base : Heap} {f : Addr} {fd : FuncData} (T : Glo K mg) (F : Fun K "_law_step_text" "_law_step_text" s_law_step_text f fd) (hm : mg "_law_step_text" = some (.ref f)) (b : Binds K fd ["_law_step"] [])  :
    Fn0 P w K mg base 1 "_law_step_text" m_law_step_text := by
  have nd := sc_law_step_text.nd
  refine Fn0.make F hm sc_law_step_text b rfl rfl fun cdv A outer s H E hr => ?_
  exact (mss_cons (ms_asg (me_var 0) (mg_tup 6 rfl (mgs_cons (mg_name 3 nd) (mgs_cons (mg_name 4 nd) (mgs_cons (mg_name 5 nd) (mgs_cons (mg_name 6 nd) (mgs_cons (mg_name 7 nd) (mgs_cons (mg_name 8 nd) mgs_nil))))))))
    (mss_cons (ms_set 1 nd (me_op om_add (me_op om_add (me_var 3) (me_str [32])) (me_ifExp (mt_cmp (om_eq hr.units) (me_var 4) (me_str []) (nomark _)) (me_str [42]) (me_var 4))))
    (mss_cons (ms_for PassesOwn.never rfl (mi_of (me_var 5)) (mg_name 2 nd) (mss_one (ms_set 1 nd (me_op om_add (me_op om_add (me_var 1) (me_str [32, 46])) (me_var 2)))))
    (mss_cons (ms_if (mt_cmp (om_ne hr.units) (me_var 6) (me_tup ma_nil) (nomark _)) (mss_one (ms_set 1 nd (me_op om_add (me_op om_add (me_var 1) (me_str [32, 61])) (me_ix (me_var 6) me_int)))) mss_nil)
    (mss_cons (ms_if (mt_cmp (om_ne hr.units) (me_var 7) (me_tup ma_nil) (nomark _)) (mss_one (ms_set 1 nd (me_op om_add (me_op om_add (me_op om_add (me_op om_add (me_var 1) (me_str [32, 126])) (me_ifExp (mt_cmp (om_eq hr.units) (me_ix (me_var 7) me_int) (me_str []) (nomark _)) (me_str [42]) (me_ix (me_var 7) me_int))) (me_str [61])) (me_ix (me_var 7) me_int)))) mss_nil)
    (mss_one (ms_ret (me_op om_add (me_var 1) (me_ifExp (mt_cmp om_gt (me_var 8) me_int (nomark _)) (me_op om_add (me_str [32, 35]) (me_callTy cm_str rfl T.b_str (by decide +kernel) (ma_cons (me_var 8) ma_nil))) (me_str []))))))))))
abbrev s_law_bent_text : Stmt := topS 52
theorem sc_law_bent_text : FnScope ["_law_pot_here", "_law_text", "_law_spot", "_law_sign", "_law_some", "_law_at", "_law_words"] ["_law_pot_here", "_law_text"] (defScope s_law_bent_text) := ⟨rfl, rfl, rfl, by decide +kernel, rfl, by decide +kernel, by decide +kernel⟩
def b_law_bent_text : S := seqS (parS 5 6 (consA (callF m_law_take (consA (getL 0) (consA (op2 addD (callV lenD (consA (getL 1) (nilA))) (cst (.int 1))) (nilA)))) (consA (strMV splitD (getL 1) (cst (.str [32]))) (nilA))))
  (seqS (setS 2 (callF m_law_take (consA (getL 0) (consA (callV lenD (consA (getL 6) (nilA))) (nilA)))))
  (seqS (setS 3 (callF m_law_of (consA (getL 0) (consA (lstV (consA (cst (.str [32])) (consA (cst (.str [62])) (consA (cst (.str [46])) (consA (cst (.str [61])) (consA (cst (.str [126])) (consA (cst (.str [35])) (consA (cst (.str [42])) (consA (cst (.str [97])) (consA (cst (.str [65])) (consA (cst (.str [48])) (consA (cst (.str [52])) (consA (cst (.str [123])) (consA (cst (.str [125])) (consA (cst (.str [10])) (nilA)))))))))))))))) (nilA)))))
  (seqS (setS 4 (lstN (consA (op2 addD (op2 addD (slV (getL 1) noO (someO (getL 5))) (getL 3)) (slV (getL 1) (someO (getL 5)) noO)) (consA (op2 addD (slV (getL 1) noO (someO (getL 5))) (slV (getL 1) (someO (op2 addD (getL 5) (cst (.int 1)))) noO)) (consA (op2 addD (op2 addD (slV (getL 1) noO (someO (getL 5))) (getL 3)) (slV (getL 1) (someO (op2 addD (getL 5) (cst (.int 1)))) noO)) (consA (op2 addD (getL 1) (cst (.str [32]))) (nilA)))))))
  (seqS (exprS (appV (getL 4) (consA (strMV joinD (cst (.str [32])) (op2 addD (slV (getL 6) noO (someO (getL 2))) (slV (getL 6) (someO (op2 addD (getL 2) (cst (.int 1)))) noO))) (nilA))))
  (seqS (exprS (appV (getL 4) (consA (strMV joinD (cst (.str [32])) (op2 addD (slV (getL 6) noO (someO (op2 addD (getL 2) (cst (.int 1))))) (slV (getL 6) (someO (getL 2)) noO))) (nilA))))
  (seqS (exprS (appV (getL 4) (consA (strMV joinD (cst (.str [32])) (op2 addD (slV (getL 6) noO (someO (getL 2))) (revV (slV (getL 6) (someO (getL 2)) noO)))) (nilA))))
  (retS (callF m_law_of (consA (getL 0) (consA (op2 addD (frzV (getL 4)) (lstV (consA (op2 addD (op2 addD (getL 1) (cst (.str [32, 62, 32]))) (getL 1)) (consA (op2 addD (getL 1) (cst (.str [32, 35, 49]))) (consA (op2 addD (cst (.str [32])) (getL 1)) (consA (cst (.str [])) (nilA))))))) (nilA)))))))))))
def m_law_bent_text : List D → M D := bodyM 2 7 b_law_bent_text
theorem ok_law_bent_text {P : Program} {w : World} {K : PySem.W.Frag} {mg : Str → Option Value} {base : Heap} {f : Addr} {fd : FuncData} (T : Glo K mg) (F : Fun K "_law_bent_text" "_law_bent_text" s_law_bent_text f fd) (hm : mg "_law_bent_text" = some (.ref f)) (b : Binds K fd ["_law_pot_here", "_law_text"] []) (G_law_take : Fn0 P w K mg base 1 "_law_take" m_law_take) (G_law_of : Fn0 P w K mg base 2 "_law_of" m_law_of) :
    Fn0 P w K mg base 3 "_law_bent_text" m_law_bent_text := by
  have nd := sc_law_bent_text.nd
  refine Fn0.make F hm sc_law_bent_text b rfl rfl fun cdv A outer s H E hr => ?_
  exact (mss_cons (ms_par 5 6 rfl nd (ma_cons (me_call G_law_take (hr.mono (by first | decide | omega)) rfl (ma_cons (me_var 0) (ma_cons (me_op om_add (me_callB (cm_len) rfl T.b_len (by decide +kernel) (ma_cons (me_var 1) ma_nil)) me_int) ma_nil))) (ma_cons (me_split (me_var 1) (me_str [32])) ma_nil)))
    (mss_cons (ms_set 2 nd (me_call G_law_take (hr.mono (by first | decide | omega)) rfl (ma_cons (me_var 0) (ma_cons (me_callB (cm_len) rfl T.b_len (by decide +kernel) (ma_cons (me_var 6) ma_nil)) ma_nil))))
    (mss_cons (ms_set 3 nd (me_call G_law_of (hr.mono (by first | decide | omega)) rfl (ma_cons (me_var 0) (ma_cons (me_lst (ma_cons (me_str [32]) (ma_cons (me_str [62]) (ma_cons (me_str [46]) (ma_cons (me_str [61]) (ma_cons (me_str [126]) (ma_cons (me_str [35]) (ma_cons (me_str [42]) (ma_cons (me_str [97]) (ma_cons (me_str [65]) (ma_cons (me_str [48]) (ma_cons (me_str [52]) (ma_cons (me_str [123]) (ma_cons (me_str [125]) (ma_cons (me_str [10]) ma_nil))))))))))))))) ma_nil))))
    (mss_cons (ms_set 4 nd (me_lstN (ma_cons (me_op om_add (me_op om_add (me_slice (me_var 1) mo_none (mo_some (me_var 5))) (me_var 3)) (me_slice (me_var 1) (mo_some (me_var 5)) mo_none)) (ma_cons (me_op om_add (me_slice (me_var 1) mo_none (mo_some (me_var 5))) (me_slice (me_var 1) (mo_some (me_op om_add (me_var 5) me_int)) mo_none)) (ma_cons (me_op om_add (me_op om_add (me_slice (me_var 1) mo_none (mo_some (me_var 5))) (me_var 3)) (me_slice (me_var 1) (mo_some (me_op om_add (me_var 5) me_int)) mo_none)) (ma_cons (me_op om_add (me_var 1) (me_str [32])) ma_nil))))))
    (mss_cons (ms_expr (me_append (me_var 4) (ma_cons (me_join (me_str [32]) (me_op om_add (me_slice (me_var 6) mo_none (mo_some (me_var 2))) (me_slice (me_var 6) (mo_some (me_op om_add (me_var 2) me_int)) mo_none))) ma_nil)))
    (mss_cons (ms_expr (me_append (me_var 4) (ma_cons (me_join (me_str [32]) (me_op om_add (me_slice (me_var 6) mo_none (mo_some (me_op om_add (me_var 2) me_int))) (me_slice (me_var 6) (mo_some (me_var 2)) mo_none))) ma_nil)))
    (mss_cons (ms_expr (me_append (me_var 4) (ma_cons (me_join (me_str [32]) (me_op om_add (me_slice (me_var 6) mo_none (mo_some (me_var 2))) (me_rev (me_slice (me_var 6) (mo_some (me_var 2)) mo_none)))) ma_nil)))
    (mss_one (ms_ret (me_call G_law_of (hr.mono (by first | decide | omega)) rfl (ma_cons (me_var 0) (ma_cons (me_op om_add (me_frz (me_var 4)) (me_lst (ma_cons (me_op om_add (me_op om_add (me_var 1) (me_str [32, 62, 32])) (me_var 1)) (ma_cons (me_op om_add (me_var 1) (me_str [32, 35, 49])) (ma_cons (me_op om_add (me_str [32]) (me_var 1)) (ma_cons (me_str []) ma_nil)))))) ma_nil))))))))))))
abbrev s_law_is_read : Stmt := topS 53
theorem sc_law_is_read : FnScope ["_law_text", "_law_found", "_law_caught_here"] ["_law_text"] (defScope s_law_is_read) := ⟨rfl, rfl, rfl, by decide +kernel, rfl, by decide +kernel, by decide +kernel⟩
def b_law_is_read : S := seqS (setS 1 (lstN (nilA)))
  (seqS (setS 2 (caughtV 0 "_law_is_read" "_law_is_read.<locals>.<lambda>" errNames (appV (getL 1) (consA (callX m_read_finder (consA (getL 0) (nilA))) (nilA)))))
  (seqS (ifS (toTB (op2 isNotD (getL 2) (cst .non))) (retS (andV (isEV errNames "BadText" (getL 2)) (op2 eqRD (callV reprD (consA (errV errNames (getL 2)) (nilA))) (callV reprD (consA (getL 0) (nilA)))))) (nextS))
  (retS (andV (callF m_is_finder (consA (op2 ixD (getL 1) (cst (.int 0))) (nilA))) (op2 eqRD (callV reprD (consA (callX m_show_finder (consA (op2 ixD (getL 1) (cst (.int 0))) (nilA))) (nilA))) (callV reprD (consA (getL 0) (nilA))))))))
def m_law_is_read : List D → M D := bodyM 1 3 b_law_is_read
theorem ok_law_is_read {P : Program} {w : World} {K : PySem.W.Frag} {mg : Str → Option Value} {base : Heap} {f : Addr} {fd : FuncData} (T : Glo K mg) (F : Fun K "_law_is_read" "_law_is_read" s_law_is_read f fd) (hm : mg "_law_is_read" = some (.ref f)) (b : Binds K fd ["_law_text"] []) (Er : ErrG K mg P errNames) (Cg : ∀ CS, mg "StillError" = some (.ref CS) → Cgt K mg CS) {c Pt : Addr} (hns : PySem.W.nsIn K mainGlobals "_law_is_read" = some (some (.ref f))) (ti : PySem.W.tabIn K "_law_is_read" = some (c, Pt)) (TB : LamX.TabB base mg c Pt) (G_read_finder : Fn1G P w K mg base 7 "read_finder" m_read_finder) (G_is_finder : Fn0 P w K mg base 5 "is_finder" m_is_finder) (G_show_finder : Fn1G P w K mg base 7 "show_finder" m_show_finder) :
    Fn0G P w K mg base 10 "_law_is_read" m_law_is_read := by
  have nd := sc_law_is_read.nd
  refine Fn0G.makeL F hm hns ti sc_law_is_read b rfl rfl fun A outer s H E hgd hr => ?_
  exact (mss_cons (ms_set 1 nd (me_lstN ma_nil))
    (mss_cons (ms_set 2 nd (me_caughtE (n := 0) (x := "_law_is_read") (q := "_law_is_read.<locals>.<lambda>") (k := 7) Er Cg ti TB rfl (by first | rfl | kernel_rfl) hgd (hr.mono (by first | decide | omega)) rfl (LamX.lamS_by (sc := defScope s_law_is_read) (by decide +kernel)) rfl (fun _ _ _ _ _ => rfl) (fun E A outer s H f c_ hgd hr => (me_append (me_var 1) (ma_cons (me_callXG G_read_finder (takes_of rfl rfl rfl rfl) hgd (hr.mono (by first | decide | omega)) rfl (ma_cons (me_var 0) ma_nil)) ma_nil)))))
    (mss_cons (ms_if (mt_cmp om_isNot (me_var 2) me_non (nomark _)) (mss_one (ms_ret (me_and (me_isErr Er (by decide) rfl rfl T.b_isinstance (me_var 2)) (me_one (me_cmp om_eqR (me_callB (cm_repr hgd (room66 hr)) rfl T.b_repr (by decide +kernel) (ma_cons (me_value Er (me_var 2)) ma_nil)) (me_callB (cm_repr hgd (room66 hr)) rfl T.b_repr (by decide +kernel) (ma_cons (me_var 0) ma_nil)) (nomark _)))))) mss_nil)
    (mss_one (ms_ret (me_and (me_call G_is_finder (hr.mono (by first | decide | omega)) rfl (ma_cons (me_ix (me_var 1) me_int) ma_nil)) (me_one (me_cmp om_eqR (me_callB (cm_repr hgd (room66 hr)) rfl T.b_repr (by decide +kernel) (ma_cons (me_callXG G_show_finder L2.takes0 hgd (hr.mono (by first | decide | omega)) rfl (ma_cons (me_ix (me_var 1) me_int) ma_nil)) ma_nil)) (me_callB (cm_repr hgd (room66 hr)) rfl T.b_repr (by decide +kernel) (ma_cons (me_var 0) ma_nil)) (nomark _)))))))))
abbrev s_law_right : Stmt := topS 54
theorem sc_law_right : FnScope ["_law_pot_here", "_law_lap", "_law_caught_here", "_law_finder_here", "_law_text", "_law_odd_here", "_law_value", "_law_step"] ["_law_pot_here"] (defScope s_law_right) := ⟨rfl, rfl, rfl, by decide +kernel, rfl, by decide +kernel, by decide +kernel⟩
def b_law_right : S := seqS (forS (argsV rng1 (consA (cst (.int 8)) (nilA))) (nameG 1) (seqS (setS 3 (callF m_law_finder (consA (getL 0) (consA (callF m_law_of (consA (getL 0) (consA (lstV (consA (lstV (nilA)) (consA (lstV (consA (cst (.str [97])) (nilA))) (consA (lstV (consA (cst (.str [114, 111, 119, 115])) (consA (cst (.str [98])) (nilA)))) (nilA))))) (nilA)))) (consA (cst (.int 4)) (nilA))))))
  (seqS (setS 4 (strMV joinD (cst (.str [32, 62, 32])) (lcV (itV (getL 3)) (nameG 7) (yesT) (callF m_law_step_text (consA (getL 7) (nilA))) [7])))
  (seqS (ifS (orT (toTB (op2 neRD (callV reprD (consA (callX m_show_finder (consA (getL 3) (nilA))) (nilA))) (callV reprD (consA (getL 4) (nilA))))) (toTB (op2 neRD (callV reprD (consA (callX m_read_finder (consA (getL 4) (nilA))) (nilA))) (callV reprD (consA (getL 3) (nilA)))))) (retS (cst (.bl false))) (nextS))
  (ifS (orT (notT (toT (callF m_law_is_read (consA (callF m_law_bent_text (consA (getL 0) (consA (getL 4) (nilA)))) (nilA))))) (notT (toT (callF m_law_is_read (consA (callF m_law_bent_text (consA (getL 0) (consA (getL 4) (nilA)))) (nilA)))))) (retS (cst (.bl false))) (nextS))))))
  (seqS (asgS (tupV (consA (callF m_law_odd (consA (getL 0) (nilA))) (consA (callF m_law_of (consA (getL 0) (consA (lstV (consA (tupV (nilA)) (consA (op2 addD (getL 3) (tupV (consA (cst .non) (nilA)))) (consA (callV listD (consA (getL 3) (nilA))) (consA (getL 4) (nilA)))))) (nilA)))) (nilA)))) (tupG 2 (consG (nameG 5) (consG (nameG 6) (nilG)))))
  (seqS (setS 2 (caughtV 1 "_law_right" "_law_right.<locals>.<lambda>" errNames (callX m_show_finder (consA (getL 6) (nilA)))))
  (seqS (ifS (orT (notT (toT (isEV errNames "BadFinder" (getL 2)))) (toTB (op2 neRD (callV reprD (consA (errV errNames (getL 2)) (nilA))) (callV reprD (consA (getL 6) (nilA)))))) (retS (cst (.bl false))) (nextS))
  (seqS (setS 2 (caughtV 1 "_law_right" "_law_right.<locals>.<lambda>" errNames (callX m_read_finder (consA (getL 5) (nilA)))))
  (retS (andV (isEV errNames "BadText" (getL 2)) (op2 eqRD (callV reprD (consA (errV errNames (getL 2)) (nilA))) (callV reprD (consA (getL 5) (nilA))))))))))
def m_law_right : List D → M D := bodyM 1 8 b_law_right
theorem ok_law_right {P : Program} {w : World} {K : PySem.W.Frag} {mg : Str → Option Value} {base : Heap} {f : Addr} {fd : FuncData} (T : Glo K mg) (F : Fun K "_law_right" "_law_right" s_law_right f fd) (hm : mg "_law_right" = some (.ref f)) (b : Binds K fd ["_law_pot_here"] []) (Er : ErrG K mg P errNames) (Cg : ∀ CS, mg "StillError" = some (.ref CS) → Cgt K mg CS) {c Pt : Addr} (hns : PySem.W.nsIn K mainGlobals "_law_right" = some (some (.ref f))) (ti : PySem.W.tabIn K "_law_right" = some (c, Pt)) (TB : LamX.TabB base mg c Pt) (G_law_of : Fn0 P w K mg base 2 "_law_of" m_law_of) (G_law_finder : Fn0 P w K mg base 4 "_law_finder" m_law_finder) (G_law_step_text : Fn0 P w K mg base 1 "_law_step_text" m_law_step_text) (G_show_finder : Fn1G P w K mg base 7 "show_finder" m_show_finder) (G_read_finder : Fn1G P w K mg base 7 "read_finder" m_read_finder) (G_law_bent_text : Fn0 P w K mg base 3 "_law_bent_text" m_law_bent_text) (G_law_is_read : Fn0G P w K mg base 10 "_law_is_read" m_law_is_read) (G_law_odd : Fn0 P w K mg base 3 "_law_odd" m_law_odd) :
    Fn0G P w K mg base 11 "_law_right" m_law_right := by
  have nd := sc_law_right.nd
  refine Fn0G.makeL F hm hns ti sc_law_right b rfl rfl fun A outer s H E hgd hr => ?_
  exact (mss_cons (ms_for PassesOwn.never rfl (mi_range1 rfl T.b_range (ma_cons me_int ma_nil)) (mg_name 1 nd) (mss_cons (ms_set 3 nd (me_call G_law_finder (hr.mono (by first | decide | omega)) rfl (ma_cons (me_var 0) (ma_cons (me_call G_law_of (hr.mono (by first | decide | omega)) rfl (ma_cons (me_var 0) (ma_cons (me_lst (ma_cons (me_lst ma_nil) (ma_cons (me_lst (ma_cons (me_str [97]) ma_nil)) (ma_cons (me_lst (ma_cons (me_str [114, 111, 119, 115]) (ma_cons (me_str [98]) ma_nil))) ma_nil)))) ma_nil))) (ma_cons me_int ma_nil)))))
    (mss_cons (ms_set 4 nd (me_join (me_str [32, 62, 32]) (me_lc [("_law_step", 7)] [7] rfl nd (mi_of (me_var 3)) (blkOk_by (N := ["_law_pot_here", "_law_lap", "_law_caught_here", "_law_finder_here", "_law_text", "_law_odd_here", "_law_value", "_law_step"]) (sc := defScope s_law_right) (own := [("_law_step", 7)]) (by decide +kernel)) (fun _ _ _ _ _ => (mg_name 7 nd)) (fun _ _ _ _ _ => mts_nil) (fun _ _ _ _ _ => (me_call G_law_step_text (hr.mono (by first | decide | omega)) rfl (ma_cons (me_var 7) ma_nil))))))
    (mss_cons (ms_if (MW.mt (mw_or (mt_cmp om_neR (me_callB (cm_repr hgd (room66 hr)) rfl T.b_repr (by decide +kernel) (ma_cons (me_callXG G_show_finder L2.takes0 hgd (hr.mono (by first | decide | omega)) rfl (ma_cons (me_var 3) ma_nil)) ma_nil)) (me_callB (cm_repr hgd (room66 hr)) rfl T.b_repr (by decide +kernel) (ma_cons (me_var 4) ma_nil)) (nomark _)) (mw_or1 (mt_cmp om_neR (me_callB (cm_repr hgd (room66 hr)) rfl T.b_repr (by decide +kernel) (ma_cons (me_callXG G_read_finder L2.takes0 hgd (hr.mono (by first | decide | omega)) rfl (ma_cons (me_var 4) ma_nil)) ma_nil)) (me_callB (cm_repr hgd (room66 hr)) rfl T.b_repr (by decide +kernel) (ma_cons (me_var 3) ma_nil)) (nomark _))))) (mss_one (ms_ret me_bl)) mss_nil)
    (mss_one (ms_if (MW.mt (mw_or (mt_not (mt_val (me_callG G_law_is_read hgd (hr.mono (by first | decide | omega)) rfl (ma_cons (me_call G_law_bent_text (hr.mono (by first | decide | omega)) rfl (ma_cons (me_var 0) (ma_cons (me_var 4) ma_nil))) ma_nil)))) (mw_or1 (mt_not (mt_val (me_callG G_law_is_read hgd (hr.mono (by first | decide | omega)) rfl (ma_cons (me_call G_law_bent_text (hr.mono (by first | decide | omega)) rfl (ma_cons (me_var 0) (ma_cons (me_var 4) ma_nil))) ma_nil))))))) (mss_one (ms_ret me_bl)) mss_nil))))))
    (mss_cons (ms_asg (me_tup (ma_cons (me_call G_law_odd (hr.mono (by first | decide | omega)) rfl (ma_cons (me_var 0) ma_nil)) (ma_cons (me_call G_law_of (hr.mono (by first | decide | omega)) rfl (ma_cons (me_var 0) (ma_cons (me_lst (ma_cons (me_tup ma_nil) (ma_cons (me_op om_add (me_var 3) (me_tup (ma_cons me_non ma_nil))) (ma_cons (me_callTy cm_list rfl T.b_list (by decide +kernel) (ma_cons (me_var 3) ma_nil)) (ma_cons (me_var 4) ma_nil))))) ma_nil))) ma_nil))) (mg_tup 2 rfl (mgs_cons (mg_name 5 nd) (mgs_cons (mg_name 6 nd) mgs_nil))))
    (mss_cons (ms_set 2 nd (me_caughtE (n := 1) (x := "_law_right") (q := "_law_right.<locals>.<lambda>") (k := 7) Er Cg ti TB rfl (by first | rfl | kernel_rfl) hgd (hr.mono (by first | decide | omega)) rfl (LamX.lamS_by (sc := defScope s_law_right) (by decide +kernel)) rfl (fun _ _ _ _ _ => rfl) (fun E A outer s H f c_ hgd hr => (me_callXG G_show_finder (takes_of rfl rfl rfl rfl) hgd (hr.mono (by first | decide | omega)) rfl (ma_cons (me_var 6) ma_nil)))))
    (mss_cons (ms_if (MW.mt (mw_or (mt_not (mt_val (me_isErr Er (by decide) rfl rfl T.b_isinstance (me_var 2)))) (mw_or1 (mt_cmp om_neR (me_callB (cm_repr hgd (room66 hr)) rfl T.b_repr (by decide +kernel) (ma_cons (me_value Er (me_var 2)) ma_nil)) (me_callB (cm_repr hgd (room66 hr)) rfl T.b_repr (by decide +kernel) (ma_cons (me_var 6) ma_nil)) (nomark _))))) (mss_one (ms_ret me_bl)) mss_nil)
    (mss_cons (ms_set 2 nd (me_caughtE (n := 1) (x := "_law_right") (q := "_law_right.<locals>.<lambda>") (k := 7) Er Cg ti TB rfl (by first | rfl | kernel_rfl) hgd (hr.mono (by first | decide | omega)) rfl (LamX.lamS_by (sc := defScope s_law_right) (by decide +kernel)) rfl (fun _ _ _ _ _ => rfl) (fun E A outer s H f c_ hgd hr => (me_callXG G_read_finder (takes_of rfl rfl rfl rfl) hgd (hr.mono (by first | decide | omega)) rfl (ma_cons (me_var 5) ma_nil)))))
    (mss_one (ms_ret (me_and (me_isErr Er (by decide) rfl rfl T.b_isinstance (me_var 2)) (me_one (me_cmp om_eqR (me_callB (cm_repr hgd (room66 hr)) rfl T.b_repr (by decide +kernel) (ma_cons (me_value Er (me_var 2)) ma_nil)) (me_callB (cm_repr hgd (room66 hr)) rfl T.b_repr (by decide +kernel) (ma_cons (me_var 5) ma_nil)) (nomark _)))))))))))
abbrev s_law : Stmt := topS 55
theorem sc_law : FnScope ["_law_script", "_law_k"] ["_law_script"] (defScope s_law) := ⟨rfl, rfl, rfl, by decide +kernel, rfl, by decide +kernel, by decide +kernel⟩
def b_law : S := retS (callV allD (consA (lcV (argsV rng1 (consA (callV maxD (consA (cst (.int 1)) (consA (callV minD (consA (cst (.int 6)) (consA (callV lenD (consA (getL 0) (nilA))) (nilA)))) (nilA)))) (nilA))) (nameG 1) (yesT) (callF m_law_right (consA (callF m_law_pot (consA (getL 0) (consA (getL 1) (nilA)))) (nilA))) [1]) (nilA)))
def m_law : List D → M D := bodyM 1 2 b_law
theorem ok_law {P : Program} {w : World} {K : PySem.W.Frag} {mg : Str → Option Value} {base : Heap} {f : Addr} {fd : FuncData} (T : Glo K mg) (F : Fun K "law" "law" s_law f fd) (hm : mg "law" = some (.ref f)) (b : Binds K fd ["_law_script"] []) (G_law_pot : Fn0 P w K mg base 1 "_law_pot" m_law_pot) (G_law_right : Fn0G P w K mg base 11 "_law_right" m_law_right) :
    Fn0G P w K mg base 12 "law" m_law := by
  have nd := sc_law.nd
  refine Fn0G.make F hm sc_law b rfl rfl fun cdv A outer s H E hgd hr => ?_
  exact (mss_one (ms_ret (me_callB (cm_all rfl) rfl T.b_all (by decide +kernel) (ma_cons (me_lc [("_law_k", 1)] [1] rfl nd (mi_range1 rfl T.b_range (ma_cons (me_callB (cm_max rfl) rfl T.b_max (by decide +kernel) (ma_cons me_int (ma_cons (me_callB (cm_min rfl) rfl T.b_min (by decide +kernel) (ma_cons me_int (ma_cons (me_callB (cm_len) rfl T.b_len (by decide +kernel) (ma_cons (me_var 0) ma_nil)) ma_nil))) ma_nil))) ma_nil)) (blkOk_by (N := ["_law_script", "_law_k"]) (sc := defScope s_law) (own := [("_law_k", 1)]) (by decide +kernel)) (fun _ _ _ _ _ => (mg_name 1 nd)) (fun _ _ _ _ _ => mts_nil) (fun _ _ _ _ _ => (me_callG G_law_right hgd (hr.mono (by first | decide | omega)) rfl (ma_cons (me_call G_law_pot (hr.mono (by first | decide | omega)) rfl (ma_cons (me_var 0) (ma_cons (me_var 1) ma_nil))) ma_nil)))) ma_nil))))
theorem okX_law {P : Program} {w : World} {K : PySem.W.Frag} {mg : Str → Option Value} {base : Heap} {f : Addr} {fd : FuncData} (T : Glo K mg) (F : Fun K "law" "law" s_law f fd) (G_law_pot : Fn0 P w K mg base 1 "_law_pot" m_law_pot) (G_law_right : Fn0G P w K mg base 11 "_law_right" m_law_right) :
    FnG P w K mg base CX0 12 f fd ["_law_script"] (spM0 K 1 m_law) := by
  have nd := sc_law.nd
  refine fng0_make F sc_law rfl rfl fun cdv A outer s H E hgd hr => ?_
  exact (mss_one (ms_ret (me_callB (cm_all rfl) rfl T.b_all (by decide +kernel) (ma_cons (me_lc [("_law_k", 1)] [1] rfl nd (mi_range1 rfl T.b_range (ma_cons (me_callB (cm_max rfl) rfl T.b_max (by decide +kernel) (ma_cons me_int (ma_cons (me_callB (cm_min rfl) rfl T.b_min (by decide +kernel) (ma_cons me_int (ma_cons (me_callB (cm_len) rfl T.b_len (by decide +kernel) (ma_cons (me_var 0) ma_nil)) ma_nil))) ma_nil))) ma_nil)) (blkOk_by (N := ["_law_script", "_law_k"]) (sc := defScope s_law) (own := [("_law_k", 1)]) (by decide +kernel)) (fun _ _ _ _ _ => (mg_name 1 nd)) (fun _ _ _ _ _ => mts_nil) (fun _ _ _ _ _ => (me_callG G_law_right hgd (hr.mono (by first | decide | omega)) rfl (ma_cons (me_call G_law_pot (hr.mono (by first | decide | omega)) rfl (ma_cons (me_var 0) (ma_cons (me_var 1) ma_nil))) ma_nil)))) ma_nil))))
abbrev tabNames : List (Str × Str) := [("_law_is_read", "_law_is_read.<locals>.<lambda>"), ("_law_right", "_law_right.<locals>.<lambda>")]
theorem all_mk {l : PySem.W.OpenLaw} {w : World} {K : PySem.W.Frag} {h : Heap} {mg : Str → Option Value} {fa : Addr} (X : K.In h) (G : h.Ns mainGlobals mg) (hfa : mg "law" = some (.ref fa))
    {y_SMALL : Str} {t_SMALL : Tok}
    {y_GREAT : Str} {t_GREAT : Tok}
    {t_LONGEST : Tok}
    {y_CHILD : Str} {t_CHILD : Tok}
    {y_BELOW : Str} {t_BELOW : Tok}
    {y_NEXT : Str} {t_NEXT : Tok}
    {a_AXES : Addr} {d_AXES : Option Addr} {sl_AXES : Array (Option Value)} {i_AXES : Array Value} {n_AXES : Nat}
    {t_STEP_PARTS : Tok}
    {t_MOST_STEPS : Tok}
    {t_MOST_MARKS : Tok}
    {t_MOST_HAS : Tok}
    {t_MOST_NTH : Tok}
    {t_MOST_TEXTS : Tok}
    {y_ANY : Str} {t_ANY : Tok}
    {y_STEP_JOINT : Str} {t_STEP_JOINT : Tok}
    {S fI cda cc : Addr} {ocI : Value} {odI anI : Option Addr} {docI pmI kVI ctI : Value} {oslI : Array (Option Value)} {p1 p2 q1 q2 q3 q4 q5 q6 q7 q8 q9 q10 q11 q12 : Pos} {ccl : Value} {cdd : Option Addr} {ccs : Array (Option Value)} {vsI : Array Value} {fileI : Str} {tfI : Tok} {clI : Value} {cld : Option Addr} {csl : Array (Option Value)} {cdS : ClassData} {oS : Value} {dS : Option Addr} {slS : Array (Option Value)}
    {C_BadFinder N_BadFinder : Addr} {nm_BadFinder q_BadFinder : Str} {bs_BadFinder sub_BadFinder : List Value} {sn_BadFinder : List Str} {ab_BadFinder : Bool} {col_BadFinder : Option Bool} {dd_BadFinder : Option Addr} {m0_BadFinder m1_BadFinder m2_BadFinder m3_BadFinder m5_BadFinder : Option Value}
    {C_BadText N_BadText : Addr} {nm_BadText q_BadText : Str} {bs_BadText sub_BadText : List Value} {sn_BadText : List Str} {ab_BadText : Bool} {col_BadText : Option Bool} {dd_BadText : Option Addr} {m0_BadText m1_BadText m2_BadText m3_BadText m5_BadText : Option Value}
    {f_is_integer : Addr} {od_is_integer an_is_integer : Option Addr} {sl_is_integer : Array (Option Value)} {oc_is_integer kV_is_integer dc_is_integer pm_is_integer ct_is_integer : Value} {cd_is_integer : Value}
    {f_is_between : Addr} {od_is_between an_is_between : Option Addr} {sl_is_between : Array (Option Value)} {oc_is_between kV_is_between dc_is_between pm_is_between ct_is_between : Value} {cd_is_between : Value}
    {f_is_name : Addr} {od_is_name an_is_name : Option Addr} {sl_is_name : Array (Option Value)} {oc_is_name kV_is_name dc_is_name pm_is_name ct_is_name : Value} {cd_is_name : Value}
    {f_is_fixed : Addr} {od_is_fixed an_is_fixed : Option Addr} {sl_is_fixed : Array (Option Value)} {oc_is_fixed kV_is_fixed dc_is_fixed pm_is_fixed ct_is_fixed : Value} {cd_is_fixed : Value}
    {f_is_tuple_of : Addr} {od_is_tuple_of an_is_tuple_of : Option Addr} {sl_is_tuple_of : Array (Option Value)} {oc_is_tuple_of kV_is_tuple_of dc_is_tuple_of pm_is_tuple_of ct_is_tuple_of : Value} {cd_is_tuple_of : Value}
    {f_are_ascending : Addr} {od_are_ascending an_are_ascending : Option Addr} {sl_are_ascending : Array (Option Value)} {oc_are_ascending kV_are_ascending dc_are_ascending pm_are_ascending ct_are_ascending : Value} {cd_are_ascending : Value}
    {f_is_hole : Addr} {od_is_hole an_is_hole : Option Addr} {sl_is_hole : Array (Option Value)} {oc_is_hole kV_is_hole dc_is_hole pm_is_hole ct_is_hole : Value} {cd_is_hole : Value}
    {f_is_sought : Addr} {od_is_sought an_is_sought : Option Addr} {sl_is_sought : Array (Option Value)} {oc_is_sought kV_is_sought dc_is_sought pm_is_sought ct_is_sought : Value} {cd_is_sought : Value}
    {f_is_tag : Addr} {od_is_tag an_is_tag : Option Addr} {sl_is_tag : Array (Option Value)} {oc_is_tag kV_is_tag dc_is_tag pm_is_tag ct_is_tag : Value} {cd_is_tag : Value}
    {f_are_marks : Addr} {od_are_marks an_are_marks : Option Addr} {sl_are_marks : Array (Option Value)} {oc_are_marks kV_are_marks dc_are_marks pm_are_marks ct_are_marks : Value} {cd_are_marks : Value}
    {f_is_step : Addr} {od_is_step an_is_step : Option Addr} {sl_is_step : Array (Option Value)} {oc_is_step kV_is_step dc_is_step pm_is_step ct_is_step : Value} {cd_is_step : Value}
    {f_texts_of : Addr} {od_texts_of an_texts_of : Option Addr} {sl_texts_of : Array (Option Value)} {oc_texts_of kV_texts_of dc_texts_of pm_texts_of ct_texts_of : Value} {cd_texts_of : Value}
    {f_is_finder : Addr} {od_is_finder an_is_finder : Option Addr} {sl_is_finder : Array (Option Value)} {oc_is_finder kV_is_finder dc_is_finder pm_is_finder ct_is_finder : Value} {cd_is_finder : Value}
    {f_check_finder : Addr} {od_check_finder an_check_finder : Option Addr} {sl_check_finder : Array (Option Value)} {oc_check_finder kV_check_finder dc_check_finder pm_check_finder ct_check_finder : Value} {cd_check_finder : Value}
    {f_step_text : Addr} {od_step_text an_step_text : Option Addr} {sl_step_text : Array (Option Value)} {oc_step_text kV_step_text dc_step_text pm_step_text ct_step_text : Value} {cd_step_text : Value}
    {f_finder_text : Addr} {od_finder_text an_finder_text : Option Addr} {sl_finder_text : Array (Option Value)} {oc_finder_text kV_finder_text dc_finder_text pm_finder_text ct_finder_text : Value} {cd_finder_text : Value}
    {f_show_finder : Addr} {od_show_finder an_show_finder : Option Addr} {sl_show_finder : Array (Option Value)} {oc_show_finder kV_show_finder dc_show_finder pm_show_finder ct_show_finder : Value} {cd_show_finder : Value}
    {f_tag_of : Addr} {od_tag_of an_tag_of : Option Addr} {sl_tag_of : Array (Option Value)} {oc_tag_of kV_tag_of dc_tag_of pm_tag_of ct_tag_of : Value} {cd_tag_of : Value}
    {f_step_of : Addr} {od_step_of an_step_of : Option Addr} {sl_step_of : Array (Option Value)} {oc_step_of kV_step_of dc_step_of pm_step_of ct_step_of : Value} {cd_step_of : Value}
    {f_finder_of : Addr} {od_finder_of an_finder_of : Option Addr} {sl_finder_of : Array (Option Value)} {oc_finder_of kV_finder_of dc_finder_of pm_finder_of ct_finder_of : Value} {cd_finder_of : Value}
    {f_read_finder : Addr} {od_read_finder an_read_finder : Option Addr} {sl_read_finder : Array (Option Value)} {oc_read_finder kV_read_finder dc_read_finder pm_read_finder ct_read_finder : Value} {cd_read_finder : Value}
    {f_law_pot : Addr} {od_law_pot an_law_pot : Option Addr} {sl_law_pot : Array (Option Value)} {oc_law_pot kV_law_pot dc_law_pot pm_law_pot ct_law_pot : Value} {cd_law_pot : Value}
    {f_law_take : Addr} {od_law_take an_law_take : Option Addr} {sl_law_take : Array (Option Value)} {oc_law_take kV_law_take dc_law_take pm_law_take ct_law_take : Value} {cd_law_take : Value}
    {f_law_of : Addr} {od_law_of an_law_of : Option Addr} {sl_law_of : Array (Option Value)} {oc_law_of kV_law_of dc_law_of pm_law_of ct_law_of : Value} {cd_law_of : Value}
    {f_law_sought : Addr} {od_law_sought an_law_sought : Option Addr} {sl_law_sought : Array (Option Value)} {oc_law_sought kV_law_sought dc_law_sought pm_law_sought ct_law_sought : Value} {cd_law_sought : Value}
    {f_law_finder : Addr} {od_law_finder an_law_finder : Option Addr} {sl_law_finder : Array (Option Value)} {oc_law_finder kV_law_finder dc_law_finder pm_law_finder ct_law_finder : Value} {cd_law_finder : Value}
    {f_law_caught : Addr} {od_law_caught an_law_caught : Option Addr} {sl_law_caught : Array (Option Value)} {oc_law_caught kV_law_caught dc_law_caught pm_law_caught ct_law_caught : Value} {cd_law_caught : Value}
    {f_law_odd : Addr} {od_law_odd an_law_odd : Option Addr} {sl_law_odd : Array (Option Value)} {oc_law_odd kV_law_odd dc_law_odd pm_law_odd ct_law_odd : Value} {cd_law_odd : Value}
    {f_law_step_text : Addr} {od_law_step_text an_law_step_text : Option Addr} {sl_law_step_text : Array (Option Value)} {oc_law_step_text kV_law_step_text dc_law_step_text pm_law_step_text ct_law_step_text : Value} {cd_law_step_text : Value}
    {f_law_bent_text : Addr} {od_law_bent_text an_law_bent_text : Option Addr} {sl_law_bent_text : Array (Option Value)} {oc_law_bent_text kV_law_bent_text dc_law_bent_text pm_law_bent_text ct_law_bent_text : Value} {cd_law_bent_text : Value}
    {f_law_is_read : Addr} {od_law_is_read an_law_is_read : Option Addr} {sl_law_is_read : Array (Option Value)} {oc_law_is_read kV_law_is_read dc_law_is_read pm_law_is_read ct_law_is_read : Value} {cd_law_is_read : Addr}
    {pt_law_is_read : Addr} {eq_law_is_read : Value} {dq_law_is_read : Option Addr} {vq_law_is_read : Array Value} {sq_law_is_read : Array (Option Value)}
    {f_law_right : Addr} {od_law_right an_law_right : Option Addr} {sl_law_right : Array (Option Value)} {oc_law_right kV_law_right dc_law_right pm_law_right ct_law_right : Value} {cd_law_right : Addr}
    {pt_law_right : Addr} {eq_law_right : Value} {dq_law_right : Option Addr} {vq_law_right : Array Value} {sq_law_right : Array (Option Value)}
    {f_law : Addr} {od_law an_law : Option Addr} {sl_law : Array (Option Value)} {oc_law kV_law dc_law pm_law ct_law : Value} {cd_law : Value}
    (nb_abs : PySem.W.nsIn K mainGlobals "abs" = some none)
    (nb_all : PySem.W.nsIn K mainGlobals "all" = some none)
    (nb_bool : PySem.W.nsIn K mainGlobals "bool" = some none)
    (nb_int : PySem.W.nsIn K mainGlobals "int" = some none)
    (nb_isinstance : PySem.W.nsIn K mainGlobals "isinstance" = some none)
    (nb_len : PySem.W.nsIn K mainGlobals "len" = some none)
    (nb_list : PySem.W.nsIn K mainGlobals "list" = some none)
    (nb_max : PySem.W.nsIn K mainGlobals "max" = some none)
    (nb_min : PySem.W.nsIn K mainGlobals "min" = some none)
    (nb_range : PySem.W.nsIn K mainGlobals "range" = some none)
    (nb_repr : PySem.W.nsIn K mainGlobals "repr" = some none)
    (nb_set : PySem.W.nsIn K mainGlobals "set" = some none)
    (nb_sorted : PySem.W.nsIn K mainGlobals "sorted" = some none)
    (nb_str : PySem.W.nsIn K mainGlobals "str" = some none)
    (nb_tuple : PySem.W.nsIn K mainGlobals "tuple" = some none)
    (nb_zip : PySem.W.nsIn K mainGlobals "zip" = some none)
    (nc_SMALL : PySem.W.nsIn K mainGlobals "SMALL" = some (some (.str y_SMALL t_SMALL))) (ec_SMALL : y_SMALL = cs [97, 98, 99, 100, 101, 102, 103, 104, 105, 106, 107, 108, 109, 110, 111, 112, 113, 114, 115, 116, 117, 118, 119, 120, 121, 122])
    (nc_GREAT : PySem.W.nsIn K mainGlobals "GREAT" = some (some (.str y_GREAT t_GREAT))) (ec_GREAT : y_GREAT = cs [65, 66, 67, 68, 69, 70, 71, 72, 73, 74, 75, 76, 77, 78, 79, 80, 81, 82, 83, 84, 85, 86, 87, 88, 89, 90])
    (nc_LONGEST : PySem.W.nsIn K mainGlobals "LONGEST" = some (some (.int 8 t_LONGEST)))
    (nc_CHILD : PySem.W.nsIn K mainGlobals "CHILD" = some (some (.str y_CHILD t_CHILD))) (ec_CHILD : y_CHILD = cs [99, 104, 105, 108, 100])
    (nc_BELOW : PySem.W.nsIn K mainGlobals "BELOW" = some (some (.str y_BELOW t_BELOW))) (ec_BELOW : y_BELOW = cs [98, 101, 108, 111, 119])
    (nc_NEXT : PySem.W.nsIn K mainGlobals "NEXT" = some (some (.str y_NEXT t_NEXT))) (ec_NEXT : y_NEXT = cs [110, 101, 120, 116])
    (nc_AXES : PySem.W.nsIn K mainGlobals "AXES" = some (some (.ref a_AXES))) (lc_AXES : K.lookup a_AXES = some ⟨.type "tuple", d_AXES, .seq i_AXES n_AXES, sl_AXES⟩) (ec_AXES : Vals (([[99, 104, 105, 108, 100], [98, 101, 108, 111, 119], [110, 101, 120, 116]] : List (List Nat)).map cs |>.map V.str) i_AXES.toList)
    (nc_STEP_PARTS : PySem.W.nsIn K mainGlobals "STEP_PARTS" = some (some (.int 6 t_STEP_PARTS)))
    (nc_MOST_STEPS : PySem.W.nsIn K mainGlobals "MOST_STEPS" = some (some (.int 4 t_MOST_STEPS)))
    (nc_MOST_MARKS : PySem.W.nsIn K mainGlobals "MOST_MARKS" = some (some (.int 2 t_MOST_MARKS)))
    (nc_MOST_HAS : PySem.W.nsIn K mainGlobals "MOST_HAS" = some (some (.int 2 t_MOST_HAS)))
    (nc_MOST_NTH : PySem.W.nsIn K mainGlobals "MOST_NTH" = some (some (.int 3 t_MOST_NTH)))
    (nc_MOST_TEXTS : PySem.W.nsIn K mainGlobals "MOST_TEXTS" = some (some (.int 3 t_MOST_TEXTS)))
    (nc_ANY : PySem.W.nsIn K mainGlobals "ANY" = some (some (.str y_ANY t_ANY))) (ec_ANY : y_ANY = cs [42])
    (nc_STEP_JOINT : PySem.W.nsIn K mainGlobals "STEP_JOINT" = some (some (.str y_STEP_JOINT t_STEP_JOINT))) (ec_STEP_JOINT : y_STEP_JOINT = cs [32, 62, 32])
    (xS : PySem.W.nsIn K mainGlobals "StillError" = some (some (.ref S)))
    (xa_BadFinder : PySem.W.nsIn K mainGlobals "BadFinder" = some (some (.ref C_BadFinder)))
    (xl_BadFinder : K.lookup C_BadFinder = some (excClassObj nm_BadFinder q_BadFinder C_BadFinder N_BadFinder bs_BadFinder (.ref S :: bmVE) true sn_BadFinder sub_BadFinder ab_BadFinder col_BadFinder dd_BadFinder m0_BadFinder m1_BadFinder m2_BadFinder m3_BadFinder m5_BadFinder "ValueError.__new__"))
    (xi_BadFinder : PySem.W.findIn K (.ref C_BadFinder) "__init__" = some (some (.ref fI)))
    (xsa_BadFinder : PySem.W.findIn K (.ref C_BadFinder) "__setattr__" = some (some (.builtin "object.__setattr__")))
    (xga_BadFinder : PySem.W.findIn K (.ref C_BadFinder) "__getattribute__" = some (some (.builtin "BaseException.__getattribute__")))
    (xgg_BadFinder : PySem.W.findIn K (.ref C_BadFinder) "__getattr__" = some none)
    (xnv_BadFinder : PySem.W.findIn K (.ref C_BadFinder) "value" = some none)
    (xkc_BadFinder : PySem.W.keepIn K (.ref C_BadFinder) = true)
    (xeb_BadFinder : PySem.W.subIn K (.ref C_BadFinder) (.type "BaseException") = some true)
    (xty_BadFinder : PySem.W.typeIn K (.ref C_BadFinder) = some (.type "type"))
    (xhd_BadFinder : PySem.W.hasDictIn K C_BadFinder = true)
    (xcl_BadFinder : (PySem.W.clsIn K C_BadFinder).isSome = true)
    (xcc_BadFinder : PySem.W.findIn K (.ref C_BadFinder) "__class__" = some (some (.builtin "object.__class__")))
    (xmo_BadFinder : PySem.W.mroIn K C_BadFinder (.type "object") = some true)
    (xmS_BadFinder : PySem.W.mroIn K C_BadFinder (.ref S) = some true)
    (xve_BadFinder : PySem.W.subIn K (.ref C_BadFinder) (.type "ValueError") = some true)
    (xup_BadFinder : PySem.W.ks_superIn K C_BadFinder S "__init__" = some (some (.builtin "ValueError.__init__")))
    (xei_BadFinder : PySem.W.excInitIn K C_BadFinder bmVE "ValueError.__new__" = true)
    (xex_BadFinder : PySem.W.exmOne K (.ref C_BadFinder) (.ref S) = some true)
    (xa_BadText : PySem.W.nsIn K mainGlobals "BadText" = some (some (.ref C_BadText)))
    (xl_BadText : K.lookup C_BadText = some (excClassObj nm_BadText q_BadText C_BadText N_BadText bs_BadText (.ref S :: bmVE) true sn_BadText sub_BadText ab_BadText col_BadText dd_BadText m0_BadText m1_BadText m2_BadText m3_BadText m5_BadText "ValueError.__new__"))
    (xi_BadText : PySem.W.findIn K (.ref C_BadText) "__init__" = some (some (.ref fI)))
    (xsa_BadText : PySem.W.findIn K (.ref C_BadText) "__setattr__" = some (some (.builtin "object.__setattr__")))
    (xga_BadText : PySem.W.findIn K (.ref C_BadText) "__getattribute__" = some (some (.builtin "BaseException.__getattribute__")))
    (xgg_BadText : PySem.W.findIn K (.ref C_BadText) "__getattr__" = some none)
    (xnv_BadText : PySem.W.findIn K (.ref C_BadText) "value" = some none)
    (xkc_BadText : PySem.W.keepIn K (.ref C_BadText) = true)
    (xeb_BadText : PySem.W.subIn K (.ref C_BadText) (.type "BaseException") = some true)
    (xty_BadText : PySem.W.typeIn K (.ref C_BadText) = some (.type "type"))
    (xhd_BadText : PySem.W.hasDictIn K C_BadText = true)
    (xcl_BadText : (PySem.W.clsIn K C_BadText).isSome = true)
    (xcc_BadText : PySem.W.findIn K (.ref C_BadText) "__class__" = some (some (.builtin "object.__class__")))
    (xmo_BadText : PySem.W.mroIn K C_BadText (.type "object") = some true)
    (xmS_BadText : PySem.W.mroIn K C_BadText (.ref S) = some true)
    (xve_BadText : PySem.W.subIn K (.ref C_BadText) (.type "ValueError") = some true)
    (xup_BadText : PySem.W.ks_superIn K C_BadText S "__init__" = some (some (.builtin "ValueError.__init__")))
    (xei_BadText : PySem.W.excInitIn K C_BadText bmVE "ValueError.__new__" = true)
    (xex_BadText : PySem.W.exmOne K (.ref C_BadText) (.ref S) = some true)
    (yn : PySem.W.specialIn K (.builtin "object.__class__") "__get__" = some (some (.builtin "getset_descriptor.__get__")))
    (yt : PySem.W.takesIn K (.builtin "object.__class__") = some true)
    (yI : PySem.W.typeIn K (.ref fI) = some (.type "function"))
    (yl : K.lookup fI = some ⟨ocI, odI, .func (PySem.W.ksFn "__init__" "StillError.__init__" (stA p1 p2) (stB q1 q2 q3 q4 q5 q6 q7 q8 q9 q10 q11 q12) stS .none kVI docI pmI anI (.ref cda) ctI cc), oslI⟩)
    (yc : PySem.W.codeIn K (.ref cda) "StillError.__init__" = true)
    (yq : (q3.endLine == q7.line) = true)
    (yd : K.lookup cda = some ⟨ccl, cdd, .fields vsI, ccs⟩)
    (yf : vsI[2]? = some (.str fileI tfI))
    (yg : ((l.prog.main.file : Str) == fileI) = true)
    (ye : K.lookup cc = some ⟨clI, cld, .cell (some (.ref S)), csl⟩)
    (yp : (l.prog.main.scope.names.lookup ("super" : Str)).isSome = false)
    (yS : K.lookup S = some ⟨oS, dS, .cls cdS, slS⟩)
    (yT : PySem.W.nsIn K cStatics "thirdparty.any" = some none)
    (ys : PySem.W.nsIn K mainGlobals "super" = some none)
    (yr : PySem.W.nsIn K mainGlobals "repr" = some none)
    (a_is_integer : PySem.W.nsIn K mainGlobals "is_integer" = some (some (.ref f_is_integer)))
    (l_is_integer : K.lookup f_is_integer = some ⟨oc_is_integer, od_is_integer, .func (PySem.W.fnOf "is_integer" "is_integer" (defArgs s_is_integer) (defBody s_is_integer) (defScope s_is_integer) .none kV_is_integer dc_is_integer pm_is_integer an_is_integer cd_is_integer ct_is_integer), sl_is_integer⟩)
    (c_is_integer : PySem.W.codeIn K cd_is_integer "is_integer" = true) (k_is_integer : PySem.W.keepIn K (.ref f_is_integer) = true)
    (a_is_between : PySem.W.nsIn K mainGlobals "is_between" = some (some (.ref f_is_between)))
    (l_is_between : K.lookup f_is_between = some ⟨oc_is_between, od_is_between, .func (PySem.W.fnOf "is_between" "is_between" (defArgs s_is_between) (defBody s_is_between) (defScope s_is_between) .none kV_is_between dc_is_between pm_is_between an_is_between cd_is_between ct_is_between), sl_is_between⟩)
    (c_is_between : PySem.W.codeIn K cd_is_between "is_between" = true) (k_is_between : PySem.W.keepIn K (.ref f_is_between) = true)
    (a_is_name : PySem.W.nsIn K mainGlobals "is_name" = some (some (.ref f_is_name)))
    (l_is_name : K.lookup f_is_name = some ⟨oc_is_name, od_is_name, .func (PySem.W.fnOf "is_name" "is_name" (defArgs s_is_name) (defBody s_is_name) (defScope s_is_name) .none kV_is_name dc_is_name pm_is_name an_is_name cd_is_name ct_is_name), sl_is_name⟩)
    (c_is_name : PySem.W.codeIn K cd_is_name "is_name" = true) (k_is_name : PySem.W.keepIn K (.ref f_is_name) = true)
    (a_is_fixed : PySem.W.nsIn K mainGlobals "is_fixed" = some (some (.ref f_is_fixed)))
    (l_is_fixed : K.lookup f_is_fixed = some ⟨oc_is_fixed, od_is_fixed, .func (PySem.W.fnOf "is_fixed" "is_fixed" (defArgs s_is_fixed) (defBody s_is_fixed) (defScope s_is_fixed) .none kV_is_fixed dc_is_fixed pm_is_fixed an_is_fixed cd_is_fixed ct_is_fixed), sl_is_fixed⟩)
    (c_is_fixed : PySem.W.codeIn K cd_is_fixed "is_fixed" = true) (k_is_fixed : PySem.W.keepIn K (.ref f_is_fixed) = true)
    (a_is_tuple_of : PySem.W.nsIn K mainGlobals "is_tuple_of" = some (some (.ref f_is_tuple_of)))
    (l_is_tuple_of : K.lookup f_is_tuple_of = some ⟨oc_is_tuple_of, od_is_tuple_of, .func (PySem.W.fnOf "is_tuple_of" "is_tuple_of" (defArgs s_is_tuple_of) (defBody s_is_tuple_of) (defScope s_is_tuple_of) .none kV_is_tuple_of dc_is_tuple_of pm_is_tuple_of an_is_tuple_of cd_is_tuple_of ct_is_tuple_of), sl_is_tuple_of⟩)
    (c_is_tuple_of : PySem.W.codeIn K cd_is_tuple_of "is_tuple_of" = true) (k_is_tuple_of : PySem.W.keepIn K (.ref f_is_tuple_of) = true)
    (a_are_ascending : PySem.W.nsIn K mainGlobals "are_ascending" = some (some (.ref f_are_ascending)))
    (l_are_ascending : K.lookup f_are_ascending = some ⟨oc_are_ascending, od_are_ascending, .func (PySem.W.fnOf "are_ascending" "are_ascending" (defArgs s_are_ascending) (defBody s_are_ascending) (defScope s_are_ascending) .none kV_are_ascending dc_are_ascending pm_are_ascending an_are_ascending cd_are_ascending ct_are_ascending), sl_are_ascending⟩)
    (c_are_ascending : PySem.W.codeIn K cd_are_ascending "are_ascending" = true) (k_are_ascending : PySem.W.keepIn K (.ref f_are_ascending) = true)
    (a_is_hole : PySem.W.nsIn K mainGlobals "is_hole" = some (some (.ref f_is_hole)))
    (l_is_hole : K.lookup f_is_hole = some ⟨oc_is_hole, od_is_hole, .func (PySem.W.fnOf "is_hole" "is_hole" (defArgs s_is_hole) (defBody s_is_hole) (defScope s_is_hole) .none kV_is_hole dc_is_hole pm_is_hole an_is_hole cd_is_hole ct_is_hole), sl_is_hole⟩)
    (c_is_hole : PySem.W.codeIn K cd_is_hole "is_hole" = true) (k_is_hole : PySem.W.keepIn K (.ref f_is_hole) = true)
    (a_is_sought : PySem.W.nsIn K mainGlobals "is_sought" = some (some (.ref f_is_sought)))
    (l_is_sought : K.lookup f_is_sought = some ⟨oc_is_sought, od_is_sought, .func (PySem.W.fnOf "is_sought" "is_sought" (defArgs s_is_sought) (defBody s_is_sought) (defScope s_is_sought) .none kV_is_sought dc_is_sought pm_is_sought an_is_sought cd_is_sought ct_is_sought), sl_is_sought⟩)
    (c_is_sought : PySem.W.codeIn K cd_is_sought "is_sought" = true) (k_is_sought : PySem.W.keepIn K (.ref f_is_sought) = true)
    (a_is_tag : PySem.W.nsIn K mainGlobals "is_tag" = some (some (.ref f_is_tag)))
    (l_is_tag : K.lookup f_is_tag = some ⟨oc_is_tag, od_is_tag, .func (PySem.W.fnOf "is_tag" "is_tag" (defArgs s_is_tag) (defBody s_is_tag) (defScope s_is_tag) .none kV_is_tag dc_is_tag pm_is_tag an_is_tag cd_is_tag ct_is_tag), sl_is_tag⟩)
    (c_is_tag : PySem.W.codeIn K cd_is_tag "is_tag" = true) (k_is_tag : PySem.W.keepIn K (.ref f_is_tag) = true)
    (a_are_marks : PySem.W.nsIn K mainGlobals "are_marks" = some (some (.ref f_are_marks)))
    (l_are_marks : K.lookup f_are_marks = some ⟨oc_are_marks, od_are_marks, .func (PySem.W.fnOf "are_marks" "are_marks" (defArgs s_are_marks) (defBody s_are_marks) (defScope s_are_marks) .none kV_are_marks dc_are_marks pm_are_marks an_are_marks cd_are_marks ct_are_marks), sl_are_marks⟩)
    (c_are_marks : PySem.W.codeIn K cd_are_marks "are_marks" = true) (k_are_marks : PySem.W.keepIn K (.ref f_are_marks) = true)
    (a_is_step : PySem.W.nsIn K mainGlobals "is_step" = some (some (.ref f_is_step)))
    (l_is_step : K.lookup f_is_step = some ⟨oc_is_step, od_is_step, .func (PySem.W.fnOf "is_step" "is_step" (defArgs s_is_step) (defBody s_is_step) (defScope s_is_step) .none kV_is_step dc_is_step pm_is_step an_is_step cd_is_step ct_is_step), sl_is_step⟩)
    (c_is_step : PySem.W.codeIn K cd_is_step "is_step" = true) (k_is_step : PySem.W.keepIn K (.ref f_is_step) = true)
    (a_texts_of : PySem.W.nsIn K mainGlobals "texts_of" = some (some (.ref f_texts_of)))
    (l_texts_of : K.lookup f_texts_of = some ⟨oc_texts_of, od_texts_of, .func (PySem.W.fnOf "texts_of" "texts_of" (defArgs s_texts_of) (defBody s_texts_of) (defScope s_texts_of) .none kV_texts_of dc_texts_of pm_texts_of an_texts_of cd_texts_of ct_texts_of), sl_texts_of⟩)
    (c_texts_of : PySem.W.codeIn K cd_texts_of "texts_of" = true) (k_texts_of : PySem.W.keepIn K (.ref f_texts_of) = true)
    (a_is_finder : PySem.W.nsIn K mainGlobals "is_finder" = some (some (.ref f_is_finder)))
    (l_is_finder : K.lookup f_is_finder = some ⟨oc_is_finder, od_is_finder, .func (PySem.W.fnOf "is_finder" "is_finder" (defArgs s_is_finder) (defBody s_is_finder) (defScope s_is_finder) .none kV_is_finder dc_is_finder pm_is_finder an_is_finder cd_is_finder ct_is_finder), sl_is_finder⟩)
    (c_is_finder : PySem.W.codeIn K cd_is_finder "is_finder" = true) (k_is_finder : PySem.W.keepIn K (.ref f_is_finder) = true)
    (a_check_finder : PySem.W.nsIn K mainGlobals "check_finder" = some (some (.ref f_check_finder)))
    (l_check_finder : K.lookup f_check_finder = some ⟨oc_check_finder, od_check_finder, .func (PySem.W.fnOf "check_finder" "check_finder" (defArgs s_check_finder) (defBody s_check_finder) (defScope s_check_finder) .none kV_check_finder dc_check_finder pm_check_finder an_check_finder cd_check_finder ct_check_finder), sl_check_finder⟩)
    (c_check_finder : PySem.W.codeIn K cd_check_finder "check_finder" = true) (k_check_finder : PySem.W.keepIn K (.ref f_check_finder) = true)
    (a_step_text : PySem.W.nsIn K mainGlobals "step_text" = some (some (.ref f_step_text)))
    (l_step_text : K.lookup f_step_text = some ⟨oc_step_text, od_step_text, .func (PySem.W.fnOf "step_text" "step_text" (defArgs s_step_text) (defBody s_step_text) (defScope s_step_text) .none kV_step_text dc_step_text pm_step_text an_step_text cd_step_text ct_step_text), sl_step_text⟩)
    (c_step_text : PySem.W.codeIn K cd_step_text "step_text" = true) (k_step_text : PySem.W.keepIn K (.ref f_step_text) = true)
    (a_finder_text : PySem.W.nsIn K mainGlobals "finder_text" = some (some (.ref f_finder_text)))
    (l_finder_text : K.lookup f_finder_text = some ⟨oc_finder_text, od_finder_text, .func (PySem.W.fnOf "finder_text" "finder_text" (defArgs s_finder_text) (defBody s_finder_text) (defScope s_finder_text) .none kV_finder_text dc_finder_text pm_finder_text an_finder_text cd_finder_text ct_finder_text), sl_finder_text⟩)
    (c_finder_text : PySem.W.codeIn K cd_finder_text "finder_text" = true) (k_finder_text : PySem.W.keepIn K (.ref f_finder_text) = true)
    (a_show_finder : PySem.W.nsIn K mainGlobals "show_finder" = some (some (.ref f_show_finder)))
    (l_show_finder : K.lookup f_show_finder = some ⟨oc_show_finder, od_show_finder, .func (PySem.W.fnOf "show_finder" "show_finder" (defArgs s_show_finder) (defBody s_show_finder) (defScope s_show_finder) .none kV_show_finder dc_show_finder pm_show_finder an_show_finder cd_show_finder ct_show_finder), sl_show_finder⟩)
    (c_show_finder : PySem.W.codeIn K cd_show_finder "show_finder" = true) (k_show_finder : PySem.W.keepIn K (.ref f_show_finder) = true)
    (a_tag_of : PySem.W.nsIn K mainGlobals "tag_of" = some (some (.ref f_tag_of)))
    (l_tag_of : K.lookup f_tag_of = some ⟨oc_tag_of, od_tag_of, .func (PySem.W.fnOf "tag_of" "tag_of" (defArgs s_tag_of) (defBody s_tag_of) (defScope s_tag_of) .none kV_tag_of dc_tag_of pm_tag_of an_tag_of cd_tag_of ct_tag_of), sl_tag_of⟩)
    (c_tag_of : PySem.W.codeIn K cd_tag_of "tag_of" = true) (k_tag_of : PySem.W.keepIn K (.ref f_tag_of) = true)
    (a_step_of : PySem.W.nsIn K mainGlobals "step_of" = some (some (.ref f_step_of)))
    (l_step_of : K.lookup f_step_of = some ⟨oc_step_of, od_step_of, .func (PySem.W.fnOf "step_of" "step_of" (defArgs s_step_of) (defBody s_step_of) (defScope s_step_of) .none kV_step_of dc_step_of pm_step_of an_step_of cd_step_of ct_step_of), sl_step_of⟩)
    (c_step_of : PySem.W.codeIn K cd_step_of "step_of" = true) (k_step_of : PySem.W.keepIn K (.ref f_step_of) = true)
    (a_finder_of : PySem.W.nsIn K mainGlobals "finder_of" = some (some (.ref f_finder_of)))
    (l_finder_of : K.lookup f_finder_of = some ⟨oc_finder_of, od_finder_of, .func (PySem.W.fnOf "finder_of" "finder_of" (defArgs s_finder_of) (defBody s_finder_of) (defScope s_finder_of) .none kV_finder_of dc_finder_of pm_finder_of an_finder_of cd_finder_of ct_finder_of), sl_finder_of⟩)
    (c_finder_of : PySem.W.codeIn K cd_finder_of "finder_of" = true) (k_finder_of : PySem.W.keepIn K (.ref f_finder_of) = true)
    (a_read_finder : PySem.W.nsIn K mainGlobals "read_finder" = some (some (.ref f_read_finder)))
    (l_read_finder : K.lookup f_read_finder = some ⟨oc_read_finder, od_read_finder, .func (PySem.W.fnOf "read_finder" "read_finder" (defArgs s_read_finder) (defBody s_read_finder) (defScope s_read_finder) .none kV_read_finder dc_read_finder pm_read_finder an_read_finder cd_read_finder ct_read_finder), sl_read_finder⟩)
    (c_read_finder : PySem.W.codeIn K cd_read_finder "read_finder" = true) (k_read_finder : PySem.W.keepIn K (.ref f_read_finder) = true)
    (a_law_pot : PySem.W.nsIn K mainGlobals "_law_pot" = some (some (.ref f_law_pot)))
    (l_law_pot : K.lookup f_law_pot = some ⟨oc_law_pot, od_law_pot, .func (PySem.W.fnOf "_law_pot" "_law_pot" (defArgs s_law_pot) (defBody s_law_pot) (defScope s_law_pot) .none kV_law_pot dc_law_pot pm_law_pot an_law_pot cd_law_pot ct_law_pot), sl_law_pot⟩)
    (c_law_pot : PySem.W.codeIn K cd_law_pot "_law_pot" = true) (k_law_pot : PySem.W.keepIn K (.ref f_law_pot) = true)
    (a_law_take : PySem.W.nsIn K mainGlobals "_law_take" = some (some (.ref f_law_take)))
    (l_law_take : K.lookup f_law_take = some ⟨oc_law_take, od_law_take, .func (PySem.W.fnOf "_law_take" "_law_take" (defArgs s_law_take) (defBody s_law_take) (defScope s_law_take) .none kV_law_take dc_law_take pm_law_take an_law_take cd_law_take ct_law_take), sl_law_take⟩)
    (c_law_take : PySem.W.codeIn K cd_law_take "_law_take" = true) (k_law_take : PySem.W.keepIn K (.ref f_law_take) = true)
    (a_law_of : PySem.W.nsIn K mainGlobals "_law_of" = some (some (.ref f_law_of)))
    (l_law_of : K.lookup f_law_of = some ⟨oc_law_of, od_law_of, .func (PySem.W.fnOf "_law_of" "_law_of" (defArgs s_law_of) (defBody s_law_of) (defScope s_law_of) .none kV_law_of dc_law_of pm_law_of an_law_of cd_law_of ct_law_of), sl_law_of⟩)
    (c_law_of : PySem.W.codeIn K cd_law_of "_law_of" = true) (k_law_of : PySem.W.keepIn K (.ref f_law_of) = true)
    (a_law_sought : PySem.W.nsIn K mainGlobals "_law_sought" = some (some (.ref f_law_sought)))
    (l_law_sought : K.lookup f_law_sought = some ⟨oc_law_sought, od_law_sought, .func (PySem.W.fnOf "_law_sought" "_law_sought" (defArgs s_law_sought) (defBody s_law_sought) (defScope s_law_sought) .none kV_law_sought dc_law_sought pm_law_sought an_law_sought cd_law_sought ct_law_sought), sl_law_sought⟩)
    (c_law_sought : PySem.W.codeIn K cd_law_sought "_law_sought" = true) (k_law_sought : PySem.W.keepIn K (.ref f_law_sought) = true)
    (a_law_finder : PySem.W.nsIn K mainGlobals "_law_finder" = some (some (.ref f_law_finder)))
    (l_law_finder : K.lookup f_law_finder = some ⟨oc_law_finder, od_law_finder, .func (PySem.W.fnOf "_law_finder" "_law_finder" (defArgs s_law_finder) (defBody s_law_finder) (defScope s_law_finder) .none kV_law_finder dc_law_finder pm_law_finder an_law_finder cd_law_finder ct_law_finder), sl_law_finder⟩)
    (c_law_finder : PySem.W.codeIn K cd_law_finder "_law_finder" = true) (k_law_finder : PySem.W.keepIn K (.ref f_law_finder) = true)
    (a_law_caught : PySem.W.nsIn K mainGlobals "_law_caught" = some (some (.ref f_law_caught)))
    (l_law_caught : K.lookup f_law_caught = some ⟨oc_law_caught, od_law_caught, .func (PySem.W.fnOf "_law_caught" "_law_caught" (defArgs s_law_caught) (defBody s_law_caught) (defScope s_law_caught) .none kV_law_caught dc_law_caught pm_law_caught an_law_caught cd_law_caught ct_law_caught), sl_law_caught⟩)
    (c_law_caught : PySem.W.codeIn K cd_law_caught "_law_caught" = true) (k_law_caught : PySem.W.keepIn K (.ref f_law_caught) = true)
    (a_law_odd : PySem.W.nsIn K mainGlobals "_law_odd" = some (some (.ref f_law_odd)))
    (l_law_odd : K.lookup f_law_odd = some ⟨oc_law_odd, od_law_odd, .func (PySem.W.fnOf "_law_odd" "_law_odd" (defArgs s_law_odd) (defBody s_law_odd) (defScope s_law_odd) .none kV_law_odd dc_law_odd pm_law_odd an_law_odd cd_law_odd ct_law_odd), sl_law_odd⟩)
    (c_law_odd : PySem.W.codeIn K cd_law_odd "_law_odd" = true) (k_law_odd : PySem.W.keepIn K (.ref f_law_odd) = true)
    (a_law_step_text : PySem.W.nsIn K mainGlobals "_law_step_text" = some (some (.ref f_law_step_text)))
    (l_law_step_text : K.lookup f_law_step_text = some ⟨oc_law_step_text, od_law_step_text, .func (PySem.W.fnOf "_law_step_text" "_law_step_text" (defArgs s_law_step_text) (defBody s_law_step_text) (defScope s_law_step_text) .none kV_law_step_text dc_law_step_text pm_law_step_text an_law_step_text cd_law_step_text ct_law_step_text), sl_law_step_text⟩)
    (c_law_step_text : PySem.W.codeIn K cd_law_step_text "_law_step_text" = true) (k_law_step_text : PySem.W.keepIn K (.ref f_law_step_text) = true)
    (a_law_bent_text : PySem.W.nsIn K mainGlobals "_law_bent_text" = some (some (.ref f_law_bent_text)))
    (l_law_bent_text : K.lookup f_law_bent_text = some ⟨oc_law_bent_text, od_law_bent_text, .func (PySem.W.fnOf "_law_bent_text" "_law_bent_text" (defArgs s_law_bent_text) (defBody s_law_bent_text) (defScope s_law_bent_text) .none kV_law_bent_text dc_law_bent_text pm_law_bent_text an_law_bent_text cd_law_bent_text ct_law_bent_text), sl_law_bent_text⟩)
    (c_law_bent_text : PySem.W.codeIn K cd_law_bent_text "_law_bent_text" = true) (k_law_bent_text : PySem.W.keepIn K (.ref f_law_bent_text) = true)
    (a_law_is_read : PySem.W.nsIn K mainGlobals "_law_is_read" = some (some (.ref f_law_is_read)))
    (l_law_is_read : K.lookup f_law_is_read = some ⟨oc_law_is_read, od_law_is_read, .func (PySem.W.fnOf "_law_is_read" "_law_is_read" (defArgs s_law_is_read) (defBody s_law_is_read) (defScope s_law_is_read) .none kV_law_is_read dc_law_is_read pm_law_is_read an_law_is_read (.ref cd_law_is_read) ct_law_is_read), sl_law_is_read⟩)
    (c_law_is_read : PySem.W.codeIn K (.ref cd_law_is_read) "_law_is_read" = true) (k_law_is_read : PySem.W.keepIn K (.ref f_law_is_read) = true)
    (tq_law_is_read : K.lookup cd_law_is_read = some ⟨eq_law_is_read, dq_law_is_read, .fields vq_law_is_read, sq_law_is_read⟩) (tv_law_is_read : vq_law_is_read[11]? = some (.ref pt_law_is_read)) (tn_law_is_read : K.lookup pt_law_is_read = none)
    (a_law_right : PySem.W.nsIn K mainGlobals "_law_right" = some (some (.ref f_law_right)))
    (l_law_right : K.lookup f_law_right = some ⟨oc_law_right, od_law_right, .func (PySem.W.fnOf "_law_right" "_law_right" (defArgs s_law_right) (defBody s_law_right) (defScope s_law_right) .none kV_law_right dc_law_right pm_law_right an_law_right (.ref cd_law_right) ct_law_right), sl_law_right⟩)
    (c_law_right : PySem.W.codeIn K (.ref cd_law_right) "_law_right" = true) (k_law_right : PySem.W.keepIn K (.ref f_law_right) = true)
    (tq_law_right : K.lookup cd_law_right = some ⟨eq_law_right, dq_law_right, .fields vq_law_right, sq_law_right⟩) (tv_law_right : vq_law_right[11]? = some (.ref pt_law_right)) (tn_law_right : K.lookup pt_law_right = none)
    (a_law : PySem.W.nsIn K mainGlobals "law" = some (some (.ref f_law)))
    (l_law : K.lookup f_law = some ⟨oc_law, od_law, .func (PySem.W.fnOf "law" "law" (defArgs s_law) (defBody s_law) (defScope s_law) .none kV_law dc_law pm_law an_law cd_law ct_law), sl_law⟩)
    (c_law : PySem.W.codeIn K cd_law "law" = true) (k_law : PySem.W.keepIn K (.ref f_law) = true)
    (nd_tabs : ([pt_law_is_read, pt_law_right] : List Addr).Nodup) :
    ∃ (fd : FuncData) (cs : List (Addr × Addr)), (∀ (s : Shared) (v : Value), BindsTo s fd ⟨[v], []⟩ [("_law_script", v)]) ∧ tabNames.map (fun y => PySem.W.tabIn K y.1) = cs.map some ∧ (cs.map (·.2)).Nodup ∧ (∀ p ∈ cs, K.lookup p.2 = none) ∧
      ∀ base : Heap, K.In base → base.Ns mainGlobals mg → (∀ p ∈ cs, LamX.TabB base mg p.1 p.2) → FnG l.prog w K mg base CX0 12 fa fd ["_law_script"] (spM0 K 1 m_law) := by
  have e := hfa.symm.trans (PySem.W.mg_of X G a_law)
  cases e
  have T : Glo K mg := ⟨PySem.W.mg_none_of X G nb_abs,
    PySem.W.mg_none_of X G nb_all,
    PySem.W.mg_none_of X G nb_bool,
    PySem.W.mg_none_of X G nb_int,
    PySem.W.mg_none_of X G nb_isinstance,
    PySem.W.mg_none_of X G nb_len,
    PySem.W.mg_none_of X G nb_list,
    PySem.W.mg_none_of X G nb_max,
    PySem.W.mg_none_of X G nb_min,
    PySem.W.mg_none_of X G nb_range,
    PySem.W.mg_none_of X G nb_repr,
    PySem.W.mg_none_of X G nb_set,
    PySem.W.mg_none_of X G nb_sorted,
    PySem.W.mg_none_of X G nb_str,
    PySem.W.mg_none_of X G nb_tuple,
    PySem.W.mg_none_of X G nb_zip,
    Const.str [97, 98, 99, 100, 101, 102, 103, 104, 105, 106, 107, 108, 109, 110, 111, 112, 113, 114, 115, 116, 117, 118, 119, 120, 121, 122] (PySem.W.mg_of X G nc_SMALL) ec_SMALL (by decide +kernel),
    Const.str [65, 66, 67, 68, 69, 70, 71, 72, 73, 74, 75, 76, 77, 78, 79, 80, 81, 82, 83, 84, 85, 86, 87, 88, 89, 90] (PySem.W.mg_of X G nc_GREAT) ec_GREAT (by decide +kernel),
    Const.int (PySem.W.mg_of X G nc_LONGEST),
    Const.str [99, 104, 105, 108, 100] (PySem.W.mg_of X G nc_CHILD) ec_CHILD (by decide +kernel),
    Const.str [98, 101, 108, 111, 119] (PySem.W.mg_of X G nc_BELOW) ec_BELOW (by decide +kernel),
    Const.str [110, 101, 120, 116] (PySem.W.mg_of X G nc_NEXT) ec_NEXT (by decide +kernel),
    Const.tupS [[99, 104, 105, 108, 100], [98, 101, 108, 111, 119], [110, 101, 120, 116]] (PySem.W.mg_of X G nc_AXES) lc_AXES ec_AXES (by decide +kernel) (by decide),
    Const.int (PySem.W.mg_of X G nc_STEP_PARTS),
    Const.int (PySem.W.mg_of X G nc_MOST_STEPS),
    Const.int (PySem.W.mg_of X G nc_MOST_MARKS),
    Const.int (PySem.W.mg_of X G nc_MOST_HAS),
    Const.int (PySem.W.mg_of X G nc_MOST_NTH),
    Const.int (PySem.W.mg_of X G nc_MOST_TEXTS),
    Const.str [42] (PySem.W.mg_of X G nc_ANY) ec_ANY (by decide +kernel),
    Const.str [32, 62, 32] (PySem.W.mg_of X G nc_STEP_JOINT) ec_STEP_JOINT (by decide +kernel)⟩
  have Er : ErrG K mg l.prog errNames := by
    refine ⟨S, fI, ⟨⟨ocI, odI, docI, pmI, kVI, anI, cda, ctI, cc, oslI, p1, p2, q1, q2, q3, q4, q5, q6, q7, q8, q9, q10, q11, q12, _, yl, yc, yq, ⟨ccl, cdd, ccs, vsI, fileI, tfI, yd, yf, yg⟩, clI, cld, csl, ye⟩, yp, ⟨cdS, by unfold PySem.W.clsIn; rw [yS]⟩, yT, PySem.W.mg_none_of X G ys, PySem.W.mg_none_of X G yr, yI⟩, fun c hc => ?_, fun c hc => ?_, fun c hc => ?_, PySem.W.mg_of X G xS⟩
    · rcases List.mem_cons.mp hc with rfl | hc; · exact ⟨C_BadFinder, xa_BadFinder, xex_BadFinder⟩
      rcases List.mem_cons.mp hc with rfl | hc; · exact ⟨C_BadText, xa_BadText, xex_BadText⟩
      exact absurd hc List.not_mem_nil
    · rcases List.mem_cons.mp hc with rfl | hc; · exact (fun C h => by rw [xa_BadFinder] at h; cases h; exact errC_mk xga_BadFinder xgg_BadFinder xeb_BadFinder xhd_BadFinder xnv_BadFinder xcl_BadFinder xcc_BadFinder yn yt xmo_BadFinder)
      rcases List.mem_cons.mp hc with rfl | hc; · exact (fun C h => by rw [xa_BadText] at h; cases h; exact errC_mk xga_BadText xgg_BadText xeb_BadText xhd_BadText xnv_BadText xcl_BadText xcc_BadText yn yt xmo_BadText)
      exact absurd hc List.not_mem_nil
    · rcases List.mem_cons.mp hc with rfl | hc; · exact ⟨C_BadFinder, xa_BadFinder, PySem.W.mg_of X G xa_BadFinder, ⟨⟨⟨nm_BadFinder, q_BadFinder, N_BadFinder, bs_BadFinder, _, sn_BadFinder, sub_BadFinder, ab_BadFinder, col_BadFinder, dd_BadFinder, m0_BadFinder, m1_BadFinder, m2_BadFinder, m3_BadFinder, m5_BadFinder, xl_BadFinder, rfl⟩, xsa_BadFinder, xeb_BadFinder, xty_BadFinder, xkc_BadFinder⟩, xei_BadFinder, xnv_BadFinder, xi_BadFinder, xup_BadFinder, xve_BadFinder, xmS_BadFinder⟩⟩
      rcases List.mem_cons.mp hc with rfl | hc; · exact ⟨C_BadText, xa_BadText, PySem.W.mg_of X G xa_BadText, ⟨⟨⟨nm_BadText, q_BadText, N_BadText, bs_BadText, _, sn_BadText, sub_BadText, ab_BadText, col_BadText, dd_BadText, m0_BadText, m1_BadText, m2_BadText, m3_BadText, m5_BadText, xl_BadText, rfl⟩, xsa_BadText, xeb_BadText, xty_BadText, xkc_BadText⟩, xei_BadText, xnv_BadText, xi_BadText, xup_BadText, xve_BadText, xmS_BadText⟩⟩
      exact absurd hc List.not_mem_nil
  have F_is_integer := fun_mk (st := s_is_integer) l_is_integer c_is_integer k_is_integer
  have B_is_integer := F_is_integer.binds (ps := ["value"]) fun _ _ _ _ _ _ us hl => match us, hl with | [_], _ => rfl
  have F_is_between := fun_mk (st := s_is_between) l_is_between c_is_between k_is_between
  have B_is_between := F_is_between.binds (ps := ["value", "least", "most"]) fun _ _ _ _ _ _ us hl => match us, hl with | [_, _, _], _ => rfl
  have F_is_name := fun_mk (st := s_is_name) l_is_name c_is_name k_is_name
  have B_is_name := F_is_name.binds (ps := ["value"]) fun _ _ _ _ _ _ us hl => match us, hl with | [_], _ => rfl
  have F_is_fixed := fun_mk (st := s_is_fixed) l_is_fixed c_is_fixed k_is_fixed
  have B_is_fixed := F_is_fixed.binds (ps := ["value"]) fun _ _ _ _ _ _ us hl => match us, hl with | [_], _ => rfl
  have F_is_tuple_of := fun_mk (st := s_is_tuple_of) l_is_tuple_of c_is_tuple_of k_is_tuple_of
  have B_is_tuple_of := F_is_tuple_of.binds (ps := ["value", "many"]) fun _ _ _ _ _ _ us hl => match us, hl with | [_, _], _ => rfl
  have F_are_ascending := fun_mk (st := s_are_ascending) l_are_ascending c_are_ascending k_are_ascending
  have B_are_ascending := F_are_ascending.binds (ps := ["values"]) fun _ _ _ _ _ _ us hl => match us, hl with | [_], _ => rfl
  have F_is_hole := fun_mk (st := s_is_hole) l_is_hole c_is_hole k_is_hole
  have B_is_hole := F_is_hole.binds (ps := ["value"]) fun _ _ _ _ _ _ us hl => match us, hl with | [_], _ => rfl
  have F_is_sought := fun_mk (st := s_is_sought) l_is_sought c_is_sought k_is_sought
  have B_is_sought := F_is_sought.binds (ps := ["value"]) fun _ _ _ _ _ _ us hl => match us, hl with | [_], _ => rfl
  have F_is_tag := fun_mk (st := s_is_tag) l_is_tag c_is_tag k_is_tag
  have B_is_tag := F_is_tag.binds (ps := ["value"]) fun _ _ _ _ _ _ us hl => match us, hl with | [_], _ => rfl
  have F_are_marks := fun_mk (st := s_are_marks) l_are_marks c_are_marks k_are_marks
  have B_are_marks := F_are_marks.binds (ps := ["value"]) fun _ _ _ _ _ _ us hl => match us, hl with | [_], _ => rfl
  have F_is_step := fun_mk (st := s_is_step) l_is_step c_is_step k_is_step
  have B_is_step := F_is_step.binds (ps := ["value"]) fun _ _ _ _ _ _ us hl => match us, hl with | [_], _ => rfl
  have F_texts_of := fun_mk (st := s_texts_of) l_texts_of c_texts_of k_texts_of
  have B_texts_of := F_texts_of.binds (ps := ["finder"]) fun _ _ _ _ _ _ us hl => match us, hl with | [_], _ => rfl
  have F_is_finder := fun_mk (st := s_is_finder) l_is_finder c_is_finder k_is_finder
  have B_is_finder := F_is_finder.binds (ps := ["value"]) fun _ _ _ _ _ _ us hl => match us, hl with | [_], _ => rfl
  have F_check_finder := fun_mk (st := s_check_finder) l_check_finder c_check_finder k_check_finder
  have B_check_finder := F_check_finder.binds (ps := ["value"]) fun _ _ _ _ _ _ us hl => match us, hl with | [_], _ => rfl
  have F_step_text := fun_mk (st := s_step_text) l_step_text c_step_text k_step_text
  have B_step_text := F_step_text.binds (ps := ["step"]) fun _ _ _ _ _ _ us hl => match us, hl with | [_], _ => rfl
  have F_finder_text := fun_mk (st := s_finder_text) l_finder_text c_finder_text k_finder_text
  have B_finder_text := F_finder_text.binds (ps := ["finder"]) fun _ _ _ _ _ _ us hl => match us, hl with | [_], _ => rfl
  have F_show_finder := fun_mk (st := s_show_finder) l_show_finder c_show_finder k_show_finder
  have B_show_finder := F_show_finder.binds (ps := ["finder"]) fun _ _ _ _ _ _ us hl => match us, hl with | [_], _ => rfl
  have F_tag_of := fun_mk (st := s_tag_of) l_tag_of c_tag_of k_tag_of
  have B_tag_of := F_tag_of.binds (ps := ["word"]) fun _ _ _ _ _ _ us hl => match us, hl with | [_], _ => rfl
  have F_step_of := fun_mk (st := s_step_of) l_step_of c_step_of k_step_of
  have B_step_of := F_step_of.binds (ps := ["text"]) fun _ _ _ _ _ _ us hl => match us, hl with | [_], _ => rfl
  have F_finder_of := fun_mk (st := s_finder_of) l_finder_of c_finder_of k_finder_of
  have B_finder_of := F_finder_of.binds (ps := ["text"]) fun _ _ _ _ _ _ us hl => match us, hl with | [_], _ => rfl
  have F_read_finder := fun_mk (st := s_read_finder) l_read_finder c_read_finder k_read_finder
  have B_read_finder := F_read_finder.binds (ps := ["text"]) fun _ _ _ _ _ _ us hl => match us, hl with | [_], _ => rfl
  have F_law_pot := fun_mk (st := s_law_pot) l_law_pot c_law_pot k_law_pot
  have B_law_pot := F_law_pot.binds (ps := ["_law_script", "_law_k"]) fun _ _ _ _ _ _ us hl => match us, hl with | [_, _], _ => rfl
  have F_law_take := fun_mk (st := s_law_take) l_law_take c_law_take k_law_take
  have B_law_take := F_law_take.binds (ps := ["_law_pot_here", "_law_upto"]) fun _ _ _ _ _ _ us hl => match us, hl with | [_, _], _ => rfl
  have F_law_of := fun_mk (st := s_law_of) l_law_of c_law_of k_law_of
  have B_law_of := F_law_of.binds (ps := ["_law_pot_here", "_law_some"]) fun _ _ _ _ _ _ us hl => match us, hl with | [_, _], _ => rfl
  have F_law_sought := fun_mk (st := s_law_sought) l_law_sought c_law_sought k_law_sought
  have B_law_sought := F_law_sought.binds (ps := ["_law_pot_here", "_law_texts"]) fun _ _ _ _ _ _ us hl => match us, hl with | [_, _], _ => rfl
  have F_law_finder := fun_mk (st := s_law_finder) l_law_finder c_law_finder k_law_finder
  have B_law_finder := F_law_finder.binds (ps := ["_law_pot_here", "_law_loops", "_law_steps"]) fun _ _ _ _ _ _ us hl => match us, hl with | [_, _, _], _ => rfl
  have F_law_caught := fun_mk (st := s_law_caught) l_law_caught c_law_caught k_law_caught
  have B_law_caught := F_law_caught.binds (ps := ["_law_ask"]) fun _ _ _ _ _ _ us hl => match us, hl with | [_], _ => rfl
  have F_law_odd := fun_mk (st := s_law_odd) l_law_odd c_law_odd k_law_odd
  have B_law_odd := F_law_odd.binds (ps := ["_law_pot_here"]) fun _ _ _ _ _ _ us hl => match us, hl with | [_], _ => rfl
  have F_law_step_text := fun_mk (st := s_law_step_text) l_law_step_text c_law_step_text k_law_step_text
  have B_law_step_text := F_law_step_text.binds (ps := ["_law_step"]) fun _ _ _ _ _ _ us hl => match us, hl with | [_], _ => rfl
  have F_law_bent_text := fun_mk (st := s_law_bent_text) l_law_bent_text c_law_bent_text k_law_bent_text
  have B_law_bent_text := F_law_bent_text.binds (ps := ["_law_pot_here", "_law_text"]) fun _ _ _ _ _ _ us hl => match us, hl with | [_, _], _ => rfl
  have ti_law_is_read : PySem.W.tabIn K "_law_is_read" = some (cd_law_is_read, pt_law_is_read) := tabIn_mk a_law_is_read l_law_is_read rfl tq_law_is_read tv_law_is_read
  have F_law_is_read := fun_mk (st := s_law_is_read) l_law_is_read c_law_is_read k_law_is_read
  have B_law_is_read := F_law_is_read.binds (ps := ["_law_text"]) fun _ _ _ _ _ _ us hl => match us, hl with | [_], _ => rfl
  have ti_law_right : PySem.W.tabIn K "_law_right" = some (cd_law_right, pt_law_right) := tabIn_mk a_law_right l_law_right rfl tq_law_right tv_law_right
  have F_law_right := fun_mk (st := s_law_right) l_law_right c_law_right k_law_right
  have B_law_right := F_law_right.binds (ps := ["_law_pot_here"]) fun _ _ _ _ _ _ us hl => match us, hl with | [_], _ => rfl
  have F_law := fun_mk (st := s_law) l_law c_law k_law
  refine ⟨PySem.W.fnOf "law" "law" (defArgs s_law) (defBody s_law) (defScope s_law) .none kV_law dc_law pm_law an_law cd_law ct_law, [(cd_law_is_read, pt_law_is_read), (cd_law_right, pt_law_right)], fun s v => .of_eq rfl, by simp only [tabNames, List.map_cons, List.map_nil, ti_law_is_read, ti_law_right], nd_tabs, fun p hp => ?_, fun base _ _ hT => ?_⟩
  · rcases List.mem_cons.mp hp with rfl | hp; · exact tn_law_is_read
    rcases List.mem_cons.mp hp with rfl | hp; · exact tn_law_right
    exact absurd hp List.not_mem_nil
  · have G_is_integer := ok_is_integer (P := l.prog) (w := w) (base := base) T F_is_integer (PySem.W.mg_of X G a_is_integer) B_is_integer  
    have G_is_between := ok_is_between (P := l.prog) (w := w) (base := base) T F_is_between (PySem.W.mg_of X G a_is_between) B_is_between  G_is_integer
    have G_is_name := ok_is_name (P := l.prog) (w := w) (base := base) T F_is_name (PySem.W.mg_of X G a_is_name) B_is_name  
    have G_is_fixed := ok_is_fixed (P := l.prog) (w := w) (base := base) T F_is_fixed (PySem.W.mg_of X G a_is_fixed) B_is_fixed  
    have G_is_tuple_of := ok_is_tuple_of (P := l.prog) (w := w) (base := base) T F_is_tuple_of (PySem.W.mg_of X G a_is_tuple_of) B_is_tuple_of  
    have G_are_ascending := ok_are_ascending (P := l.prog) (w := w) (base := base) T F_are_ascending (PySem.W.mg_of X G a_are_ascending) B_are_ascending  
    have G_is_hole := ok_is_hole (P := l.prog) (w := w) (base := base) T F_is_hole (PySem.W.mg_of X G a_is_hole) B_is_hole  G_is_name
    have G_is_sought := ok_is_sought (P := l.prog) (w := w) (base := base) T F_is_sought (PySem.W.mg_of X G a_is_sought) B_is_sought  G_is_name G_is_fixed G_is_hole
    have G_is_tag := ok_is_tag (P := l.prog) (w := w) (base := base) T F_is_tag (PySem.W.mg_of X G a_is_tag) B_is_tag  G_is_name
    have G_are_marks := ok_are_marks (P := l.prog) (w := w) (base := base) T F_are_marks (PySem.W.mg_of X G a_are_marks) B_are_marks  G_is_name G_are_ascending
    have G_is_step := ok_is_step (P := l.prog) (w := w) (base := base) T F_is_step (PySem.W.mg_of X G a_is_step) B_is_step  G_is_tuple_of G_is_tag G_are_marks G_is_sought G_is_between
    have G_texts_of := ok_texts_of (P := l.prog) (w := w) (base := base) T F_texts_of (PySem.W.mg_of X G a_texts_of) B_texts_of  
    have G_is_finder := ok_is_finder (P := l.prog) (w := w) (base := base) T F_is_finder (PySem.W.mg_of X G a_is_finder) B_is_finder  G_is_step G_texts_of
    have G_check_finder := ok_check_finder (P := l.prog) (w := w) (base := base) T F_check_finder (PySem.W.mg_of X G a_check_finder) B_check_finder Er G_is_finder
    have G_step_text := ok_step_text (P := l.prog) (w := w) (base := base) T F_step_text (PySem.W.mg_of X G a_step_text) B_step_text  
    have G_finder_text := ok_finder_text (P := l.prog) (w := w) (base := base) T F_finder_text (PySem.W.mg_of X G a_finder_text) B_finder_text  G_step_text
    have G_show_finder := ok_show_finder (P := l.prog) (w := w) (base := base) T F_show_finder (PySem.W.mg_of X G a_show_finder) B_show_finder  G_check_finder G_finder_text
    have G_tag_of := ok_tag_of (P := l.prog) (w := w) (base := base) T F_tag_of (PySem.W.mg_of X G a_tag_of) B_tag_of  
    have G_step_of := ok_step_of (P := l.prog) (w := w) (base := base) T F_step_of (PySem.W.mg_of X G a_step_of) B_step_of  G_tag_of
    have G_finder_of := ok_finder_of (P := l.prog) (w := w) (base := base) T F_finder_of (PySem.W.mg_of X G a_finder_of) B_finder_of  G_step_of G_is_finder G_finder_text
    have G_read_finder := ok_read_finder (P := l.prog) (w := w) (base := base) T F_read_finder (PySem.W.mg_of X G a_read_finder) B_read_finder Er G_finder_of
    have G_law_pot := ok_law_pot (P := l.prog) (w := w) (base := base) T F_law_pot (PySem.W.mg_of X G a_law_pot) B_law_pot  
    have G_law_take := ok_law_take (P := l.prog) (w := w) (base := base) T F_law_take (PySem.W.mg_of X G a_law_take) B_law_take  
    have G_law_of := ok_law_of (P := l.prog) (w := w) (base := base) T F_law_of (PySem.W.mg_of X G a_law_of) B_law_of  G_law_take
    have G_law_sought := ok_law_sought (P := l.prog) (w := w) (base := base) T F_law_sought (PySem.W.mg_of X G a_law_sought) B_law_sought  G_law_take G_law_of
    have G_law_finder := ok_law_finder (P := l.prog) (w := w) (base := base) T F_law_finder (PySem.W.mg_of X G a_law_finder) B_law_finder  G_law_of G_law_take G_law_sought
    have G_law_odd := ok_law_odd (P := l.prog) (w := w) (base := base) T F_law_odd (PySem.W.mg_of X G a_law_odd) B_law_odd  G_law_of
    have G_law_step_text := ok_law_step_text (P := l.prog) (w := w) (base := base) T F_law_step_text (PySem.W.mg_of X G a_law_step_text) B_law_step_text  
    have G_law_bent_text := ok_law_bent_text (P := l.prog) (w := w) (base := base) T F_law_bent_text (PySem.W.mg_of X G a_law_bent_text) B_law_bent_text  G_law_take G_law_of
    have G_law_is_read := ok_law_is_read (P := l.prog) (w := w) (base := base) T F_law_is_read (PySem.W.mg_of X G a_law_is_read) B_law_is_read Er (cg_law_caught F_law_caught (PySem.W.mg_of X G a_law_caught) B_law_caught) a_law_is_read ti_law_is_read (hT (cd_law_is_read, pt_law_is_read) (by simp)) G_read_finder G_is_finder G_show_finder
    have G_law_right := ok_law_right (P := l.prog) (w := w) (base := base) T F_law_right (PySem.W.mg_of X G a_law_right) B_law_right Er (cg_law_caught F_law_caught (PySem.W.mg_of X G a_law_caught) B_law_caught) a_law_right ti_law_right (hT (cd_law_right, pt_law_right) (by simp)) G_law_of G_law_finder G_law_step_text G_show_finder G_read_finder G_law_bent_text G_law_is_read G_law_odd
    exact okX_law T F_law G_law_pot G_law_right
end Mz

/-! plain laws about the mirrors: what must hold before, read off the text -/
namespace Mz
def wp {α : Type} (m : M α) (Q : α → Hc → Prop) (h : Hc) : Prop := match m h with
  | .ok a h' => Q a h'
  | _ => False
def asI (d : D) : Option Int := match d with
  | .int i => some i
  | _ => none
@[simp] theorem asI_int {i : Int} : asI (.int i) = some i := rfl
/-- o gives something, and k holds of it -/
def gives {α : Type} (o : Option α) (k : α → Prop) : Prop := match o with
  | some a => k a
  | none => False
@[simp] theorem gives_some {α : Type} {a : α} {k : α → Prop} : gives (some a) k = k a := rfl
@[simp] theorem gives_none {α : Type} {k : α → Prop} : gives (none : Option α) k = False := rfl
@[simp] theorem gives_map {α β : Type} {o : Option α} {f : α → β} {k : β → Prop} : gives (o.map f) k = gives o fun a => k (f a) := by cases o <;> rfl
@[simp] theorem gives_bind {α β : Type} {o : Option α} {f : α → Option β} {k : β → Prop} : gives (o.bind f) k = gives o fun a => gives (f a) k := by cases o <;> rfl
def wpS (m : S) (N : L → Hc → Prop) (T : D → Hc → Prop) (l : L) (h : Hc) : Prop := match m l h with
  | .ok (.nx l') h' => N l' h'
  | .ok (.rt d) h' => T d h'
  | _ => False
section
variable {α β : Type} {Q : α → Hc → Prop} {h : Hc} {l : L} {N : L → Hc → Prop} {T : D → Hc → Prop} {QD : D → Hc → Prop} {QB : Bool → Hc → Prop} {QL : List D → Hc → Prop}
theorem wp_elim {m : M α} (x : wp m Q h) : ∃ a h', m h = .ok a h' ∧ Q a h' := by
  unfold wp at x
  split at x
  · exact ⟨_, _, by assumption, x⟩
  · exact x.elim
theorem wp_of {m : M α} {a : α} {h' : Hc} (e : m h = .ok a h') : wp m Q h = Q a h' := by unfold wp; rw [e]
theorem wp_mono {m : M α} {Q' : α → Hc → Prop} (x : wp m Q h) (k : ∀ a h', Q a h' → Q' a h') : wp m Q' h := by
  obtain ⟨a, h', e, q⟩ := wp_elim x
  rw [wp_of e]; exact k a h' q
@[simp] theorem wp_bind {m : M β} {f : β → M α} : wp (M.bind m f) Q h = wp m (fun a h => wp (f a) Q h) h := by
  unfold wp M.bind
  cases m h <;> rfl
@[simp] theorem wp_okM {a : α} : wp (fun h => R.ok a h) Q h = Q a h := rfl
@[simp] theorem wp_okM' {a : α} : wp (R.ok a) Q h = Q a h := rfl
@[simp] theorem wp_badM : wp (fun _ => (R.bad : R α)) Q h = False := rfl
@[simp] theorem wp_ite {c : Prop} [Decidable c] {m m' : M α} : wp (if c then m else m') Q h = if c then wp m Q h else wp m' Q h := by split <;> rfl
theorem wp_rdo {o : Hc → Option α} : wp (rdo o) Q h = gives (o h) fun a => Q a h := by
  unfold wp rdo
  cases e : o h <;> simp
theorem wp_rdo' {o : Hc → Option α} {a : α} (e : o h = some a) : wp (rdo o) Q h = Q a h := by rw [wp_rdo, e]; simp
theorem wp_getL {i : Nat} : wp (getL i l) QD h = ∃ d, l[i]? = some (some d) ∧ QD d h := by
  unfold wp getL
  split
  · rename_i e
    split at e
    · rename_i d q
      cases e
      simp [q]
    · cases e
  · rename_i e
    simp only [eq_iff_iff, false_iff, not_exists, not_and]
    intro d q
    simp [q] at e
@[simp] theorem getL_cons0 {x : D} {r : L} : getL 0 (some x :: r) = R.ok x := rfl
@[simp] theorem getL_1 {x : Option D} {r : L} : getL 1 (x :: r) = getL 0 r := rfl
@[simp] theorem getL_2 {x y : Option D} {r : L} : getL 2 (x :: y :: r) = getL 0 r := rfl
@[simp] theorem getL_3 {a b c : Option D} {r : L} : getL 3 (a :: b :: c :: r) = getL 0 r := rfl
@[simp] theorem getL_4 {a b c d : Option D} {r : L} : getL 4 (a :: b :: c :: d :: r) = getL 0 r := rfl
@[simp] theorem getL_5 {a b c d e : Option D} {r : L} : getL 5 (a :: b :: c :: d :: e :: r) = getL 0 r := rfl
@[simp] theorem getL_6 {a b c d e f : Option D} {r : L} : getL 6 (a :: b :: c :: d :: e :: f :: r) = getL 0 r := rfl
@[simp] theorem getL_7 {a b c d e f g : Option D} {r : L} : getL 7 (a :: b :: c :: d :: e :: f :: g :: r) = getL 0 r := rfl
@[simp] theorem getL_8 {a b c d e f g a1 : Option D} {r : L} : getL 8 (a :: b :: c :: d :: e :: f :: g :: a1 :: r) = getL 0 r := rfl
@[simp] theorem getL_9 {a b c d e f g a1 a2 : Option D} {r : L} : getL 9 (a :: b :: c :: d :: e :: f :: g :: a1 :: a2 :: r) = getL 0 r := rfl
@[simp] theorem getL_10 {a b c d e f g a1 a2 a3 : Option D} {r : L} : getL 10 (a :: b :: c :: d :: e :: f :: g :: a1 :: a2 :: a3 :: r) = getL 0 r := rfl
@[simp] theorem getL_11 {a b c d e f g a1 a2 a3 a4 : Option D} {r : L} : getL 11 (a :: b :: c :: d :: e :: f :: g :: a1 :: a2 :: a3 :: a4 :: r) = getL 0 r := rfl
@[simp] theorem getL_12 {a b c d e f g a1 a2 a3 a4 a5 : Option D} {r : L} : getL 12 (a :: b :: c :: d :: e :: f :: g :: a1 :: a2 :: a3 :: a4 :: a5 :: r) = getL 0 r := rfl
@[simp] theorem getL_13 {a b c d e f g a1 a2 a3 a4 a5 a6 : Option D} {r : L} : getL 13 (a :: b :: c :: d :: e :: f :: g :: a1 :: a2 :: a3 :: a4 :: a5 :: a6 :: r) = getL 0 r := rfl
@[simp] theorem getL_14 {a b c d e f g a1 a2 a3 a4 a5 a6 a7 : Option D} {r : L} : getL 14 (a :: b :: c :: d :: e :: f :: g :: a1 :: a2 :: a3 :: a4 :: a5 :: a6 :: a7 :: r) = getL 0 r := rfl
@[simp] theorem getL_15 {a b c d e f g a1 a2 a3 a4 a5 a6 a7 a8 : Option D} {r : L} : getL 15 (a :: b :: c :: d :: e :: f :: g :: a1 :: a2 :: a3 :: a4 :: a5 :: a6 :: a7 :: a8 :: r) = getL 0 r := rfl
@[simp] theorem cst_eq {d : D} : cst d l = R.ok d := rfl
variable {ma mb mc mo me mx : L → M D} {mr : L → M (List D)} {ta tb : L → M Bool}
@[simp] theorem wp_op2 {f : Hc → D → D → Option D} : wp (op2 f ma mb l) QD h = wp (ma l) (fun x h => wp (mb l) (fun y h => gives (f h x y) fun d => QD d h) h) h := by
  unfold op2
  simp only [wp_bind, wp_rdo]
@[simp] theorem wp_op2c {f g : Hc → D → D → Option D} : wp (op2c f g ma mb mc l) QD h = wp (ma l) (fun x h => wp (mb l) (fun y h => gives ((f h x y).bind asB) fun k => if k then wp (mc l) (fun z h => gives (g h y z) fun d => QD d h) h else QD (.bl false) h) h) h := by
  unfold op2c
  simp only [wp_bind, wp_rdo, wp_ite, wp_okM]
@[simp] theorem wp_toT : wp (toT ma l) QB h = wp (ma l) (fun x h => gives (truD h x) fun k => QB k h) h := by
  unfold toT; simp only [wp_bind, wp_rdo]
@[simp] theorem wp_toTB : wp (toTB ma l) QB h = wp (ma l) (fun x h => gives (asB x) fun k => QB k h) h := by
  unfold toTB; simp only [wp_bind, wp_rdo]
@[simp] theorem wp_orV : wp (orV ma mb l) QD h = wp (ma l) (fun x h => gives (truD h x) fun k => if k then QD x h else wp (mb l) QD h) h := by
  unfold orV; simp only [wp_bind, wp_rdo, wp_ite, wp_okM]
@[simp] theorem wp_andV : wp (andV ma mb l) QD h = wp (ma l) (fun x h => gives (truD h x) fun k => if k then wp (mb l) QD h else QD x h) h := by
  unfold andV; simp only [wp_bind, wp_rdo, wp_ite, wp_okM]
@[simp] theorem wp_notV : wp (notV ma l) QD h = wp (ma l) (fun x h => gives (truD h x) fun k => QD (.bl (!k)) h) h := by
  unfold notV; simp only [wp_bind, wp_rdo]
  congr; funext x h
  cases truD h x <;> simp
@[simp] theorem wp_orT : wp (orT ta tb l) QB h = wp (ta l) (fun k h => if k then QB true h else wp (tb l) QB h) h := by
  unfold orT; simp only [wp_bind, wp_ite, wp_okM]
@[simp] theorem wp_andT : wp (andT ta tb l) QB h = wp (ta l) (fun k h => if k then wp (tb l) QB h else QB false h) h := by
  unfold andT; simp only [wp_bind, wp_ite, wp_okM]
@[simp] theorem wp_notT : wp (notT ta l) QB h = wp (ta l) (fun k h => QB (!k) h) h := by
  unfold notT; simp only [wp_bind, wp_okM]
@[simp] theorem wp_ifV : wp (ifV ta ma mb l) QD h = wp (ta l) (fun k h => if k then wp (ma l) QD h else wp (mb l) QD h) h := by
  unfold ifV; simp only [wp_bind, wp_ite]
@[simp] theorem wp_nilA : wp (nilA l) QL h = QL [] h := rfl
@[simp] theorem wp_consA : wp (consA ma mr l) QL h = wp (ma l) (fun x h => wp (mr l) (fun xs h => QL (x :: xs) h) h) h := by
  unfold consA; simp only [wp_bind, wp_okM]
@[simp] theorem wp_starA : wp (starA ma mr l) QL h = wp (ma l) (fun x h => gives (seqD h x) fun xs => wp (mr l) (fun ys h => QL (xs ++ ys) h) h) h := by
  unfold starA; simp only [wp_bind, wp_rdo, wp_okM]
@[simp] theorem wp_tupV : wp (tupV mr l) QD h = wp (mr l) (fun ds h => ds.length ≤ PySem.sizeLine ∧ QD (.tup ds) h) h := by
  unfold tupV; simp only [wp_bind, wp_rdo]
  congr; funext ds h
  unfold mkT
  by_cases z : ds.length ≤ PySem.sizeLine
  · simp only [z, true_and, if_true, gives_some]
  · simp only [z, false_and, if_false, gives_none]
@[simp] theorem wp_lstV : wp (lstV mr l) QD h = wp (mr l) (fun ds h => ds.length ≤ PySem.sizeLine ∧ QD (.lst ds) h) h := by
  unfold lstV; simp only [wp_bind, wp_rdo]
  congr; funext ds h
  unfold mkL
  by_cases z : ds.length ≤ PySem.sizeLine
  · simp only [z, true_and, if_true, gives_some]
  · simp only [z, false_and, if_false, gives_none]
@[simp] theorem wp_lstN : wp (lstN mr l) QD h = wp (mr l) (fun ds h => ds.length ≤ PySem.sizeLine ∧ QD (.ref h.length) (h ++ [.lst ds])) h := by
  unfold lstN; simp only [wp_bind]
  congr; funext ds h
  unfold wp
  by_cases z : ds.length ≤ PySem.sizeLine
  · simp only [z, true_and, if_true]
  · simp only [z, false_and, if_false]
@[simp] theorem wp_callV {g : Hc → List D → Option D} : wp (callV g mr l) QD h = wp (mr l) (fun ds h => gives (g h ds) fun d => QD d h) h := by
  unfold callV; simp only [wp_bind, wp_rdo]
theorem wp_safe {m : M α} : wp (safe m) Q h = wp m Q h := by
  unfold wp safe
  cases m h <;> rfl
@[simp] theorem wp_callF {f : List D → M D} : wp (callF f mr l) QD h = wp (mr l) (fun ds h => wp (f ds) QD h) h := by
  unfold callF; simp only [wp_bind]
  congr; funext ds h; exact wp_safe
@[simp] theorem wp_noO {Q : Option Int → Hc → Prop} : wp (noO l) Q h = Q none h := rfl
@[simp] theorem wp_someO {Q : Option Int → Hc → Prop} : wp (someO ma l) Q h = wp (ma l) (fun x h => gives (asI x) fun i => Q (some i) h) h := by
  unfold someO; simp only [wp_bind, wp_rdo]
  congr; funext x h
  cases x <;> rfl
@[simp] theorem wp_slV {ml mh : L → M (Option Int)} : wp (slV ma ml mh l) QD h = wp (ma l) (fun x h => wp (ml l) (fun lo h => wp (mh l) (fun hi h => gives (slD h x lo hi) fun d => QD d h) h) h) h := by
  unfold slV; simp only [wp_bind, wp_rdo]
@[simp] theorem wp_negV : wp (negV ma l) QD h = wp (ma l) (fun x h => gives (asI x) fun i => QD (.int (-i)) h) h := by
  unfold negV; simp only [wp_bind, wp_rdo]
  congr; funext x h
  cases x <;> rfl
@[simp] theorem wp_revV : wp (revV ma l) QD h = wp (ma l) (fun x h => gives (revD h x) fun d => QD d h) h := by
  unfold revV; simp only [wp_bind, wp_rdo]
@[simp] theorem wp_itV : wp (itV ma l) QL h = wp (ma l) (fun x h => gives (itemsD x) fun d => QL d h) h := by
  unfold itV; simp only [wp_bind, wp_rdo]
@[simp] theorem wp_argsV {f : List D → Option α} : wp (argsV f mr l) Q h = wp (mr l) (fun x h => gives (f x) fun d => Q d h) h := by
  unfold argsV; simp only [wp_bind, wp_rdo]
@[simp] theorem wp_lenSetV : wp (lenSetV mr l) QD h = wp (mr l) (fun ds h => gives (setTx h ds) fun xs => QD (.int (xs.length : Nat)) h) h := by
  unfold lenSetV; simp only [wp_bind, wp_rdo]
  congr; funext x h
  cases setTx h x <;> simp
@[simp] theorem wp_sortedSetV : wp (sortedSetV mr l) QD h = wp (mr l) (fun ds h => gives (setTx h ds) fun xs => QD (.lst (xs.map D.str)) h) h := by
  unfold sortedSetV; simp only [wp_bind, wp_rdo]
  congr; funext x h
  cases setTx h x <;> simp
@[simp] theorem wp_yesT : wp (yesT l) QB h = QB true h := rfl
/-- a comprehension whose parts change nothing -/
theorem wp_lcV {mi : L → M (List D)} {g : D → L → Option L} {tt : L → M Bool} {te : L → M D} {vs : List Nat} :
    wp (lcV mi g tt te vs l) QD h = wp (mi l) (fun ds h => ∃ ys h', lcL g tt te (wipeL l vs) ds h = some (ys, h') ∧ QD (.lst ys) h') h := by
  unfold lcV; simp only [wp_bind]
  congr; funext ds h
  unfold wp
  cases e : lcL g tt te (wipeL l vs) ds h with
  | none => simp only [e]; simp
  | some y =>
    obtain ⟨ys, h'⟩ := y
    simp only [e, Option.some.injEq, Prod.mk.injEq]
    exact propext ⟨fun q => ⟨ys, h', ⟨rfl, rfl⟩, q⟩, fun ⟨_, _, ⟨e1, e2⟩, q⟩ => by subst e1 e2; exact q⟩
theorem lcL_pure {g : D → L → Option L} {tt : L → M Bool} {te : L → M D} {l0 : L} {p : D → Bool} {f : D → D} {h : Hc} : ∀ (ds : List D),
    (∀ d ∈ ds, ∃ l1, g d l0 = some l1 ∧ tt l1 h = .ok (p d) h ∧ (p d = true → te l1 h = .ok (f d) h)) → lcL g tt te l0 ds h = some ((ds.filter p).map f, h)
  | [], _ => rfl
  | d :: ds, k => by
    obtain ⟨l1, e1, e2, e3⟩ := k d List.mem_cons_self
    have ih := lcL_pure ds fun x hx => k x (List.mem_cons_of_mem _ hx)
    unfold lcL
    rw [e1]
    simp only [e2]
    cases q : p d with
    | false => simp only [q, List.filter_cons, Bool.false_eq_true, if_false]; exact ih
    | true => simp only [q, List.filter_cons, if_true, e3 q, ih]; rfl
theorem wp_lc {mi : L → M (List D)} {g : D → L → Option L} {tt : L → M Bool} {te : L → M D} {vs : List Nat} (p : D → Bool) (f : D → D) {ds : List D} {h' : Hc} (e : mi l h = .ok ds h')
    (k : ∀ d ∈ ds, ∃ l1, g d (wipeL l vs) = some l1 ∧ tt l1 h' = .ok (p d) h' ∧ (p d = true → te l1 h' = .ok (f d) h')) : wp (lcV mi g tt te vs l) QD h = QD (.lst ((ds.filter p).map f)) h' := by
  rw [wp_lcV, wp_of e, lcL_pure ds k]
  simp only [Option.some.injEq, Prod.mk.injEq]
  exact propext ⟨fun ⟨_, _, ⟨e1, e2⟩, q⟩ => by subst e1 e2; exact q, fun q => ⟨_, _, ⟨rfl, rfl⟩, q⟩⟩
theorem ok_of_wp {m : M α} {a : α} {h' : Hc} (x : wp m (fun b h2 => b = a ∧ h2 = h') h) : m h = .ok a h' := by
  obtain ⟨b, h2, e, rfl, rfl⟩ := wp_elim x
  exact e
/-! ### statements -/
variable {m m' : S}
@[simp] theorem wpS_next : wpS nextS N T l h = N l h := rfl
@[simp] theorem wpS_bad : wpS badS N T l h = False := rfl
@[simp] theorem wpS_seq : wpS (seqS m m') N T l h = wpS m (fun l h => wpS m' N T l h) T l h := by
  unfold wpS seqS
  cases m l h with
  | ok f h' => cases f <;> rfl
  | exc c d l' h' => rfl
  | bad => rfl
theorem wpS_bind {m : L → M α} {f : α → S} : wpS (bindS m f) N T l h = wp (m l) (fun a h => wpS (f a) N T l h) h := by
  unfold wpS wp bindS
  cases m l h <;> rfl
@[simp] theorem wpS_if : wpS (ifS ta m m') N T l h = wp (ta l) (fun k h => if k then wpS m N T l h else wpS m' N T l h) h := by
  unfold ifS; rw [wpS_bind]
  congr; funext k h
  cases k <;> rfl
@[simp] theorem wpS_ret : wpS (retS ma) N T l h = wp (ma l) T h := by unfold retS; rw [wpS_bind]; rfl
@[simp] theorem wpS_set {i : Nat} : wpS (setS i ma) N T l h = wp (ma l) (fun d h => N (l.set i (some d)) h) h := by unfold setS; rw [wpS_bind]; rfl
@[simp] theorem wpS_expr : wpS (exprS ma) N T l h = wp (ma l) (fun _ h => N l h) h := by unfold exprS; rw [wpS_bind]; rfl
@[simp] theorem wpS_asg {g : D → L → Option L} : wpS (asgS ma g) N T l h = wp (ma l) (fun d h => gives (g d l) fun l' => N l' h) h := by
  unfold asgS; rw [wpS_bind]
  congr; funext d h
  unfold wpS
  cases e : g d l <;> simp only [e] <;> simp
@[simp] theorem wpS_par {i j : Nat} : wpS (parS i j mr) N T l h = wp (mr l) (fun ds h => match ds with | [x, y] => N ((l.set i (some x)).set j (some y)) h | _ => False) h := by
  unfold parS; rw [wpS_bind]
  congr; funext ds h
  match ds with
  | [] => rfl
  | [_] => rfl
  | [_, _] => rfl
  | _ :: _ :: _ :: _ => rfl
@[simp] theorem wpS_par3 {i j k : Nat} : wpS (par3S i j k mr) N T l h = wp (mr l) (fun ds h => match ds with | [x, y, z] => N (((l.set i (some x)).set j (some y)).set k (some z)) h | _ => False) h := by
  unfold par3S; rw [wpS_bind]
  congr; funext ds h
  match ds with
  | [] => rfl
  | [_] => rfl
  | [_, _] => rfl
  | [_, _, _] => rfl
  | _ :: _ :: _ :: _ :: _ => rfl
@[simp] theorem wpS_put : wpS (putS me mo mx) N T l h = wp (me l) (fun y h => wp (mo l) (fun x h => wp (mx l) (fun i h => wp (putH x i y) (fun _ h => N l h) h) h) h) h := by
  unfold putS; rw [wpS_bind]
  simp only [wp_bind]; rfl
theorem wp_put {n : Nat} {k : Int} {y : D} {ds : List D} {j : Nat} (e : objL h n = some ds) (ej : L2.ixN ds.length k = some j) : wp (putH (.ref n) (.int k) y) QD h = QD .non (h.set n (.lst (ds.set j y))) := by
  unfold wp putH
  simp only [e, ej]
theorem wpS_mono {N' : L → Hc → Prop} {T' : D → Hc → Prop} (x : wpS m N T l h) (k : ∀ l h, N l h → N' l h) (k' : ∀ d h, T d h → T' d h) : wpS m N' T' l h := by
  unfold wpS at x ⊢
  split at x
  · exact k _ _ x
  · exact k' _ _ x
  · exact x.elim
/-- a loop: I holds before each turn, of what is still to come -/
theorem wpS_for {mi : L → M (List D)} {g : D → L → Option L} {body : S} (I : List D → L → Hc → Prop) {ds : List D} {h' : Hc} (e : mi l h = .ok ds h') (i0 : I ds l h')
    (turn : ∀ d rest l h, I (d :: rest) l h → ∃ l1, g d l = some l1 ∧ wpS body (I rest) T l1 h) (fin : ∀ l h, I [] l h → N l h) : wpS (forS mi g body) N T l h := by
  unfold forS
  rw [wpS_bind, wp_of e]
  have key : ∀ (ds : List D) (l : L) (h : Hc), I ds l h → wpS (fun l h => forL g body ds l h) N T l h := by
    intro ds
    induction ds with
    | nil => intro l h i; exact fin l h i
    | cons d rest ih =>
      intro l h i
      obtain ⟨l1, e1, w⟩ := turn d rest l h i
      unfold wpS at w ⊢
      simp only [forL, e1]
      cases eb : body l1 h with
      | ok f h2 =>
        rw [eb] at w
        cases f with
        | nx l2 => exact ih l2 h2 w
        | rt d => exact w
        | bk l2 => exact w.elim
        | ct l2 => exact w.elim
      | exc c d l' h2 => rw [eb] at w; exact w.elim
      | bad => rw [eb] at w; exact w.elim
  exact key ds l h' i0
theorem wp_body {n nn : Nat} {m : S} {ds : List D} (e : ds.length = n) : wp (bodyM n nn m ds) QD h = wpS m (fun _ h => QD .non h) QD (ds.map some ++ List.replicate (nn - n) none) h := by
  unfold wp wpS bodyM
  rw [if_pos e]
  cases m (ds.map some ++ List.replicate (nn - n) none) h with
  | ok f h' => cases f <;> rfl
  | exc c d l' h' => rfl
  | bad => rfl
theorem wp_body1 {nn : Nat} {m : S} {a : D} : wp (bodyM 1 nn m [a]) QD h = wpS m (fun _ h => QD .non h) QD (some a :: List.replicate (nn - 1) none) h := wp_body rfl
theorem wp_body2 {nn : Nat} {m : S} {a b : D} : wp (bodyM 2 nn m [a, b]) QD h = wpS m (fun _ h => QD .non h) QD (some a :: some b :: List.replicate (nn - 2) none) h := wp_body rfl
theorem wp_body3 {nn : Nat} {m : S} {a b c : D} : wp (bodyM 3 nn m [a, b, c]) QD h = wpS m (fun _ h => QD .non h) QD (some a :: some b :: some c :: List.replicate (nn - 3) none) h := wp_body rfl
theorem wp_body4 {nn : Nat} {m : S} {a b c d : D} : wp (bodyM 4 nn m [a, b, c, d]) QD h = wpS m (fun _ h => QD .non h) QD (some a :: some b :: some c :: some d :: List.replicate (nn - 4) none) h := wp_body rfl
@[simp] theorem nameG_eq {i : Nat} {d : D} : nameG i d l = some (l.set i (some d)) := rfl
@[simp] theorem wp_appV : wp (appV mo mr l) QD h = wp (mo l) (fun x h => gives (refL h x) fun n => wp (mr l) (fun ds h => wp (one (appH n) ds) QD h) h) h := by
  unfold appV; simp only [wp_bind, wp_rdo]
@[simp] theorem wp_extV : wp (extV mo mr l) QD h = wp (mo l) (fun x h => gives (refL h x) fun n => wp (mr l) (fun ds h => wp (one (fun d => (asLst d).bind (extH n)) ds) QD h) h) h := by
  unfold extV; simp only [wp_bind, wp_rdo]
@[simp] theorem wp_one {f : D → M D} {d : D} : wp (one f [d]) QD h = wp (f d) QD h := rfl
@[simp] theorem wp_asLst {ds : List D} : wp (asLst (.lst ds)) QL h = QL ds h := rfl
theorem wp_appH {n : Nat} {y : D} {ds : List D} (e : objL h n = some ds) (z : ds.length < PySem.sizeLine) : wp (appH n y) QD h = QD .non (h.set n (.lst (ds ++ [y]))) := by
  unfold wp appH; simp only [e, if_pos z]
theorem wp_extH {n : Nat} {ys : List D} {ds : List D} (e : objL h n = some ds) (z : ds.length + ys.length ≤ PySem.sizeLine) : wp (extH n ys) QD h = QD .non (h.set n (.lst (ds ++ ys))) := by
  unfold wp extH; simp only [e, if_pos z]
@[simp] theorem refL_ref {n : Nat} : refL h (.ref n) = (objL h n).map fun _ => n := rfl
/-! ### the operations on plain data -/
@[simp] theorem truD_bl {b : Bool} : truD h (.bl b) = some b := rfl
@[simp] theorem asB_bl {b : Bool} : asB (.bl b) = some b := rfl
@[simp] theorem leD_int {i j : Int} : leD h (.int i) (.int j) = some (.bl (decide (i ≤ j))) := rfl
@[simp] theorem ltD_int {i j : Int} : ltD h (.int i) (.int j) = some (.bl (decide (i < j))) := rfl
@[simp] theorem ltD_str {i j : List Nat} : ltD h (.str i) (.str j) = some (.bl (decide (i < j))) := rfl
@[simp] theorem gtD_int {i j : Int} : gtD h (.int i) (.int j) = some (.bl (decide (j < i))) := rfl
@[simp] theorem geD_int {i j : Int} : geD h (.int i) (.int j) = some (.bl (decide (j ≤ i))) := rfl
@[simp] theorem addD_int {i j : Int} : addD h (.int i) (.int j) = some (.int (i + j)) := rfl
@[simp] theorem subD_int {i j : Int} : subD h (.int i) (.int j) = some (.int (i - j)) := rfl
@[simp] theorem intD_int {i : Int} : intD h [.int i] = some (.int i) := rfl
@[simp] theorem intD_bl {b : Bool} : intD h [.bl b] = some (.int (if b then 1 else 0)) := rfl
@[simp] theorem absD_int {i : Int} : absD h [.int i] = some (.int (if i < 0 then -i else i)) := rfl
@[simp] theorem maxD_int {i j : Int} : maxD h [.int i, .int j] = some (.int (if j > i then j else i)) := rfl
@[simp] theorem minD_int {i j : Int} : minD h [.int i, .int j] = some (.int (if j < i then j else i)) := rfl
@[simp] theorem lenD_str {x : List Nat} : lenD h [.str x] = some (.int x.length) := rfl
@[simp] theorem lenD_tup {x : List D} : lenD h [.tup x] = some (.int x.length) := rfl
@[simp] theorem lenD_lst {x : List D} : lenD h [.lst x] = some (.int x.length) := rfl
@[simp] theorem lenD_arg {x : List D} : lenD h [.arg x] = some (.int x.length) := rfl
theorem lenD_ref {n : Nat} {x : List D} (e : objL h n = some x) : lenD h [.ref n] = some (.int x.length) := by
  unfold lenD seqD; simp [e]
@[simp] theorem ixD_str {z : List Nat} {i : Int} : ixD h (.str z) (.int i) = (L2.atI z i).map fun c => .str [c] := rfl
@[simp] theorem ixD_tup {z : List D} {i : Int} : ixD h (.tup z) (.int i) = L2.atI z i := rfl
@[simp] theorem ixD_lst {z : List D} {i : Int} : ixD h (.lst z) (.int i) = L2.atI z i := rfl
@[simp] theorem ixD_arg {z : List D} {i : Int} : ixD h (.arg z) (.int i) = L2.atI z i := rfl
theorem ixD_ref {n : Nat} {x : List D} {i : Int} (e : objL h n = some x) : ixD h (.ref n) (.int i) = L2.atI x i := by
  unfold ixD seqD; simp [e]
@[simp] theorem slD_str {z : List Nat} {lo hi : Option Int} : slD h (.str z) lo hi = some (.str (cut z lo hi)) := rfl
@[simp] theorem slD_tup {z : List D} {lo hi : Option Int} : slD h (.tup z) lo hi = some (.tup (cut z lo hi)) := rfl
@[simp] theorem slD_lst {z : List D} {lo hi : Option Int} : slD h (.lst z) lo hi = some (.lst (cut z lo hi)) := rfl
@[simp] theorem reprBD_bl {b : Bool} : reprBD h [.bl b] = some (.str (if b then [84, 114, 117, 101] else [70, 97, 108, 115, 101])) := rfl
@[simp] theorem itemsD_str {z : List Nat} : itemsD (.str z) = some (z.map fun c => .str [c]) := rfl
@[simp] theorem itemsD_tup {z : List D} : itemsD (.tup z) = some z := rfl
@[simp] theorem itemsD_lst {z : List D} : itemsD (.lst z) = some z := rfl
@[simp] theorem itemsD_arg {z : List D} : itemsD (.arg z) = some z := rfl
@[simp] theorem listD_tup {z : List D} : listD h [.tup z] = some (.lst z) := rfl
@[simp] theorem listD_lst {z : List D} : listD h [.lst z] = some (.lst z) := rfl
theorem tupleD_ref {n : Nat} {x : List D} (e : objL h n = some x) : tupleD h [.ref n] = some (.tup x) := by
  unfold tupleD seqD; simp [e]
@[simp] theorem seqD_tup {z : List D} : seqD h (.tup z) = some z := rfl
@[simp] theorem seqD_lst {z : List D} : seqD h (.lst z) = some z := rfl
@[simp] theorem seqD_ref {n : Nat} : seqD h (.ref n) = objL h n := rfl
theorem eqD_ok {x y : D} (a : okD x = true) (b : okD y = true) : eqD h x y = some (.bl (eqv x y)) := by unfold eqD; simp [a, b]
theorem neD_ok {x y : D} (a : okD x = true) (b : okD y = true) : neD h x y = some (.bl (!eqv x y)) := by unfold neD; simp [a, b]
@[simp] theorem eqD_int {i j : Int} : eqD h (.int i) (.int j) = some (.bl (i == j)) := rfl
@[simp] theorem eqD_str {i j : List Nat} : eqD h (.str i) (.str j) = some (.bl (i == j)) := rfl
@[simp] theorem neD_int {i j : Int} : neD h (.int i) (.int j) = some (.bl (!(i == j))) := rfl
@[simp] theorem neD_str {i j : List Nat} : neD h (.str i) (.str j) = some (.bl (!(i == j))) := rfl
def isStr : D → Bool
  | .str _ => true
  | _ => false
def isTup : D → Bool
  | .tup _ => true
  | _ => false
def isLst : D → Bool
  | .lst _ => true
  | _ => false
def isBool : D → Bool
  | .bl _ => true
  | _ => false
def isInt : D → Bool
  | .bl _ => true
  | .int _ => true
  | _ => false
theorem isi_str {d : D} (k : dat d = true) : isiD h [d, .ty "str"] = some (.bl (isStr d)) := by cases d <;> first | (cases k; done) | rfl
theorem isi_tup {d : D} (k : dat d = true) : isiD h [d, .ty "tuple"] = some (.bl (isTup d)) := by cases d <;> first | (cases k; done) | rfl
theorem isi_lst {d : D} (k : dat d = true) : isiD h [d, .ty "list"] = some (.bl (isLst d)) := by cases d <;> first | (cases k; done) | rfl
theorem isi_int {d : D} (k : dat d = true) : isiD h [d, .ty "int"] = some (.bl (isInt d)) := by cases d <;> first | (cases k; done) | rfl
theorem isi_bool {d : D} (k : dat d = true) : isiD h [d, .ty "bool"] = some (.bl (isBool d)) := by cases d <;> first | (cases k; done) | rfl
@[simp] theorem bls_map {α : Type} (f : α → Bool) (xs : List α) : bls (xs.map fun x => D.bl (f x)) = some (xs.map f) := by
  induction xs with
  | nil => rfl
  | cons x xs ih => simp [bls, ih]
theorem allD_map {α : Type} (f : α → Bool) (xs : List α) : allD h [.lst (xs.map fun x => D.bl (f x))] = some (.bl (xs.all f)) := by
  unfold allD; simp [List.all_map]
theorem inD_char {c : Nat} {z : List Nat} : inD h (.str [c]) (.str z) = some (.bl (decide (c ∈ z))) := rfl
theorem notInD_char {c : Nat} {z : List Nat} : notInD h (.str [c]) (.str z) = some (.bl (!decide (c ∈ z))) := rfl
end
end Mz

namespace Mz
variable {Q : D → Hc → Prop} {h : Hc} {d : D}
def integerB (d : D) : Bool := isInt d && !isBool d
theorem w_is_integer (k : dat d = true) : wp (m_is_integer [d]) Q h = Q (.bl (integerB d)) h := by
  unfold m_is_integer b_is_integer integerB
  rw [wp_body1]
  simp [isi_int k, isi_bool k]
  cases isInt d <;> simp
def betweenB (d : D) (a b : Int) : Bool := match d with
  | .int i => decide (a ≤ i) && decide (i ≤ b)
  | _ => false
theorem w_is_between {a b : Int} (k : dat d = true) : wp (m_is_between [d, .int a, .int b]) Q h = Q (.bl (betweenB d a b)) h := by
  unfold m_is_between b_is_between betweenB
  rw [wp_body3]
  simp [w_is_integer k, integerB]
  cases d <;> simp [isInt, isBool]
  rename_i i
  by_cases z : a ≤ i <;> simp [z]
def SMc : List Nat := [97, 98, 99, 100, 101, 102, 103, 104, 105, 106, 107, 108, 109, 110, 111, 112, 113, 114, 115, 116, 117, 118, 119, 120, 121, 122]
def GRc : List Nat := [65, 66, 67, 68, 69, 70, 71, 72, 73, 74, 75, 76, 77, 78, 79, 80, 81, 82, 83, 84, 85, 86, 87, 88, 89, 90]
def smB (x : List Nat) : Bool := x.all fun c => decide (c ∈ SMc)
def len18 (x : List Nat) : Bool := decide ((1 : Int) ≤ x.length) && decide ((x.length : Int) ≤ 8)
def nameS (x : List Nat) : Bool := len18 x && smB x
def nameB : D → Bool
  | .str x => nameS x
  | _ => false
/-- a comprehension over a text's signs, over a sequence -/
theorem lc_signs {mi : L → M (List D)} {l : L} {vs : List Nat} {i : Nat} {te : L → M D} {x : List Nat} (f : Nat → Bool) (e : mi l h = .ok (x.map fun c => .str [c]) h)
    (k : ∀ c, te ((wipeL l vs).set i (some (.str [c]))) h = .ok (.bl (f c)) h) {Q : D → Hc → Prop} :
    wp (lcV mi (nameG i) yesT te vs l) Q h = Q (.lst (x.map fun c => .bl (f c))) h := by
  rw [wp_lc (fun _ => true) (fun d => match d with | .str [c] => .bl (f c) | _ => .non) e]
  · rw [List.filter_eq_self.mpr (fun _ _ => rfl), List.map_map]
    rfl
  · intro d hd
    obtain ⟨c, _, rfl⟩ := List.mem_map.mp hd
    exact ⟨_, rfl, rfl, fun _ => k c⟩
theorem lc_items {mi : L → M (List D)} {l : L} {vs : List Nat} {i : Nat} {te : L → M D} {xs : List D} (f : D → D) (e : mi l h = .ok xs h)
    (k : ∀ x ∈ xs, te ((wipeL l vs).set i (some x)) h = .ok (f x) h) {Q : D → Hc → Prop} :
    wp (lcV mi (nameG i) yesT te vs l) Q h = Q (.lst (xs.map f)) h := by
  rw [wp_lc (fun _ => true) f e]
  · rw [List.filter_eq_self.mpr (fun _ _ => rfl)]
  · exact fun x hx => ⟨_, rfl, rfl, fun _ => k x hx⟩
theorem lc_some {mi : L → M (List D)} {l : L} {vs : List Nat} {i : Nat} {tt : L → M Bool} {te : L → M D} {xs : List D} (p : D → Bool) (e : mi l h = .ok xs h)
    (k : ∀ x ∈ xs, tt ((wipeL l vs).set i (some x)) h = .ok (p x) h ∧ te ((wipeL l vs).set i (some x)) h = .ok x h) {Q : D → Hc → Prop} :
    wp (lcV mi (nameG i) tt te vs l) Q h = Q (.lst (xs.filter p)) h := by
  rw [wp_lc p id e]
  · rw [List.map_id]
  · exact fun x hx => ⟨_, rfl, (k x hx).1, fun _ => (k x hx).2⟩
theorem w_is_name (k : dat d = true) : wp (m_is_name [d]) Q h = Q (.bl (nameB d)) h := by
  unfold m_is_name b_is_name
  rw [wp_body1]
  cases d with
  | str x =>
    by_cases z1 : (1 : Int) ≤ x.length <;> by_cases z2 : (x.length : Int) ≤ 8 <;> simp [isi_str k, isStr, z1, z2, c_LONGEST, nameB, nameS, len18]
    rw [lc_signs (x := x) (fun c => decide (c ∈ SMc)) rfl fun c => rfl, allD_map]
    simp [smB]
  | _ => simp [isi_str k, isStr, nameB]
end Mz

namespace Mz
variable {Q : D → Hc → Prop} {h : Hc} {d : D}
theorem okD_dat {d : D} (k : okD d = true) : dat d = true := by
  unfold okD at k
  rw [Bool.and_eq_true] at k
  exact k.1
theorem dats_mem : ∀ {ds : List D} {x : D}, dats ds = true → x ∈ ds → dat x = true
  | [], _, _, m => by simp at m
  | y :: ys, x, k, m => by
    have k : (dat y && dats ys) = true := k
    rw [Bool.and_eq_true] at k
    rcases List.mem_cons.mp m with e | e
    · rw [e]; exact k.1
    · exact dats_mem k.2 e
theorem deps_mem : ∀ {ds : List D} {x : D}, x ∈ ds → dep x ≤ deps ds
  | [], _, m => by simp at m
  | y :: ys, x, m => by
    show dep x ≤ max (dep y) (deps ys)
    rcases List.mem_cons.mp m with e | e
    · rw [e]; omega
    · have := deps_mem (ds := ys) e; omega
theorem okD_tup {ds : List D} (k : okD (.tup ds) = true) {x : D} (m : x ∈ ds) : okD x = true := by
  unfold okD at k ⊢
  rw [Bool.and_eq_true, decide_eq_true_eq] at k ⊢
  have := deps_mem m
  have k2 : deps ds + 1 ≤ 64 := k.2
  exact ⟨dats_mem k.1 m, by omega⟩
@[simp] theorem okD_nil : okD (.tup []) = true := rfl
theorem atI_at {α : Type} {xs : List α} {i : Nat} (hi : i < xs.length) : L2.atI xs (i : Nat) = xs[i]? := by
  unfold L2.atI L2.ixN
  rw [if_pos (by omega), if_pos (by omega)]
  simp
@[simp] theorem atI_0 {α : Type} {c : α} {r : List α} : L2.atI (c :: r) 0 = some c := atI_at (i := 0) (by simp)
@[simp] theorem atI_1 {α : Type} {a c : α} {r : List α} : L2.atI (a :: c :: r) 1 = some c := atI_at (i := 1) (by simp)
@[simp] theorem atI_2 {α : Type} {a b c : α} {r : List α} : L2.atI (a :: b :: c :: r) 2 = some c := atI_at (i := 2) (by simp)
@[simp] theorem atI_3 {α : Type} {a b c x : α} {r : List α} : L2.atI (a :: b :: c :: x :: r) 3 = some x := atI_at (i := 3) (by simp)
@[simp] theorem atI_4 {α : Type} {a b c x y : α} {r : List α} : L2.atI (a :: b :: c :: x :: y :: r) 4 = some y := atI_at (i := 4) (by simp)
@[simp] theorem atI_5 {α : Type} {a b c x y z : α} {r : List α} : L2.atI (a :: b :: c :: x :: y :: z :: r) 5 = some z := atI_at (i := 5) (by simp)
def greatB (x : List Nat) : Bool := match x with
  | c :: _ => decide (c ∈ GRc)
  | [] => false
def fixedS (x : List Nat) : Bool := len18 x && greatB x && smB (cut x (some 1) none)
theorem wbl {b c : Bool} (e : b = c) : Q (.bl b) h ↔ Q (.bl c) h := by rw [e]
theorem w_is_fixed (k : dat d = true) : wp (m_is_fixed [d]) Q h = Q (.bl (match d with | .str x => fixedS x | _ => false)) h := by
  unfold m_is_fixed b_is_fixed
  rw [wp_body1]
  cases d with
  | str x =>
    cases x with
    | nil => simp [isi_str k, isStr, fixedS, len18, greatB]
    | cons c r =>
      have z1 : (1 : Int) ≤ ((c :: r).length : Nat) := by simp; omega
      by_cases z2 : (((c :: r).length : Nat) : Int) ≤ 8
      · by_cases z3 : c ∈ GRc
        · have n3 : c ∈ [65, 66, 67, 68, 69, 70, 71, 72, 73, 74, 75, 76, 77, 78, 79, 80, 81, 82, 83, 84, 85, 86, 87, 88, 89, 90] := z3
          have key : ∀ Q : D → Hc → Prop, wp (lcV (itV (slV (getL 0) (someO (cst (.int 1))) noO)) (nameG 1) yesT (op2 inD (getL 1) (cst c_SMALL)) [1] [some (.str (c :: r)), none]) Q h = Q (.lst ((cut (c :: r) (some 1) none).map fun c => .bl (decide (c ∈ SMc)))) h := fun Q => lc_signs (fun c => decide (c ∈ SMc)) rfl fun c => rfl
          simp [isi_str k, isStr, -List.length_cons, z1, z2, c_LONGEST, c_GREAT, fixedS, len18, greatB, notInD_char, z3, n3, -List.mem_cons]
          rw [key, allD_map]
          simp [smB]
        · have n3 : ¬ c ∈ [65, 66, 67, 68, 69, 70, 71, 72, 73, 74, 75, 76, 77, 78, 79, 80, 81, 82, 83, 84, 85, 86, 87, 88, 89, 90] := z3
          simp [isi_str k, isStr, -List.length_cons, z1, z2, c_LONGEST, c_GREAT, fixedS, len18, greatB, notInD_char, z3, n3, -List.mem_cons]
      · simp [isi_str k, isStr, -List.length_cons, z1, z2, c_LONGEST, fixedS, len18]
  | _ => simp [isi_str k, isStr]
def holeS (x : List Nat) : Bool := (cut x none (some 1) == [123]) && (cut x (some (-1)) none == [125]) && nameS (cut x (some 1) (some (-1)))
theorem hole_eq (x : List Nat) : holeS x = if cut x none (some 1) = [123] then if cut x (some (-1)) none = [125] then nameS (cut x (some 1) (some (-1))) else false else false := by
  unfold holeS
  by_cases e1 : cut x none (some 1) = [123] <;> by_cases e2 : cut x (some (-1)) none = [125] <;> simp [e1, e2, beq_false_of_ne]
theorem w_is_hole (k : dat d = true) : wp (m_is_hole [d]) Q h = Q (.bl (match d with | .str x => holeS x | _ => false)) h := by
  unfold m_is_hole b_is_hole
  rw [wp_body1]
  cases d with
  | str x =>
    have hb := hole_eq x
    by_cases e1 : cut x none (some 1) = [123] <;> by_cases e2 : cut x (some (-1)) none = [125] <;> simp [e1, e2] at hb <;> simp [isi_str k, isStr, w_is_name (d := .str _) rfl, nameB, hb, e1, e2, beq_false_of_ne]
  | _ => simp [isi_str k, isStr]
def soughtB : D → Bool
  | .str x => nameS x || fixedS x || holeS x
  | _ => false
theorem w_is_sought (k : dat d = true) : wp (m_is_sought [d]) Q h = Q (.bl (soughtB d)) h := by
  unfold m_is_sought b_is_sought
  rw [wp_body1]
  simp [w_is_name k, w_is_fixed k, w_is_hole k]
  cases d with
  | str x => simp [nameB, soughtB]; cases nameS x <;> cases fixedS x <;> simp
  | _ => simp [nameB, soughtB]
end Mz

namespace Mz
def tupP (p : List D → Bool) : D → Bool
  | .tup x => p x
  | _ => false
def intP (p : Int → Bool) : D → Bool
  | .int x => p x
  | _ => false
def strP (p : List Nat → Bool) : D → Bool
  | .str x => p x
  | _ => false
variable {Q : D → Hc → Prop} {h : Hc} {d : D}
def tagB : D → Bool
  | .str x => (x == []) || nameS x
  | _ => false
theorem w_is_tag (k : okD d = true) : wp (m_is_tag [d]) Q h = Q (.bl (tagB d)) h := by
  have k' := okD_dat k
  unfold m_is_tag b_is_tag
  rw [wp_body1]
  cases d with
  | str x =>
    simp [isi_str k', isStr, w_is_name k', nameB, tagB]
    cases x <;> simp
  | _ => simp [isi_str k', isStr, w_is_name k', nameB, tagB]
def tupOfB (d : D) (n : Int) : Bool := match d with
  | .tup ds => ((ds.length : Nat) : Int) == n
  | _ => false
theorem w_is_tuple_of {n : Int} (k : dat d = true) : wp (m_is_tuple_of [d, .int n]) Q h = Q (.bl (tupOfB d n)) h := by
  unfold m_is_tuple_of b_is_tuple_of
  rw [wp_body2]
  cases d <;> simp [isi_tup k, isTup, tupOfB]
def ascB : List D → Bool
  | [] => true
  | [_] => true
  | [.str x, .str y] => decide (x < y)
  | _ => false
def marksB (ms : List D) : Bool := decide ((ms.length : Int) ≤ 2) && ms.all nameB && ascB ms
theorem nameB_str {d : D} (e : nameB d = true) : ∃ x, d = .str x := by
  cases d <;> first | exact ⟨_, rfl⟩ | cases e
theorem w_are_marks (k : okD d = true) : wp (m_are_marks [d]) Q h = Q (.bl (tupP marksB d)) h := by
  have k' := okD_dat k
  unfold m_are_marks b_are_marks
  rw [wp_body1]
  cases d with
  | tup ms =>
    have key : ∀ Q : D → Hc → Prop, wp (lcV (itV (getL 0)) (nameG 1) yesT (callF m_is_name (consA (getL 1) nilA)) [1] [some (.tup ms), none]) Q h = Q (.lst (ms.map fun d => .bl (nameB d))) h := fun Q =>
      lc_items (fun d => .bl (nameB d)) rfl fun x hx => ok_of_wp (by simp [tupP, wipeL, w_is_name (okD_dat (okD_tup k hx))])
    by_cases z : (ms.length : Int) ≤ 2
    · have z' : ¬ (2 : Int) < ms.length := by omega
      cases z2 : ms.all nameB with
      | false => simp [tupP, isi_tup k', isTup, c_MOST_MARKS, z, z', key, allD_map, z2, marksB]
      | true =>
        simp [tupP, isi_tup k', isTup, c_MOST_MARKS, z, z', key, allD_map, z2, marksB]
        match ms, z, z2 with
        | [], _, _ => rfl
        | [x], _, _ => rfl
        | [x, y], _, z2 =>
          simp at z2
          obtain ⟨a, rfl⟩ := nameB_str z2.1
          obtain ⟨b, rfl⟩ := nameB_str z2.2
          show Q (.bl (decide (a < b) && true)) h ↔ _
          simp [tupP, ascB]
        | x :: y :: w :: r, z, _ => exfalso; simp at z; omega
    · have z' : (2 : Int) < ms.length := by omega
      simp [tupP, isi_tup k', isTup, c_MOST_MARKS, z, z', marksB]
  | _ => simp [tupP, isi_tup k', isTup]
theorem inD_tup {x : List Nat} {xs : List D} (k : xs.all flatD = true) : inD h (.str x) (.tup xs) = some (.bl (inSeq (.str x) xs)) := by
  unfold inD inB
  cases x with
  | nil => simp [tupP, k, flatD]
  | cons c r => cases r <;> simp [tupP, k, flatD]
theorem notInD_tup {x : List Nat} {xs : List D} (k : xs.all flatD = true) : notInD h (.str x) (.tup xs) = some (.bl (!inSeq (.str x) xs)) := by
  unfold notInD inB
  cases x with
  | nil => simp [tupP, k, flatD]
  | cons c r => cases r <;> simp [tupP, k, flatD]
def axisB (x : List Nat) : Bool := x == [99, 104, 105, 108, 100] || x == [98, 101, 108, 111, 119] || x == [110, 101, 120, 116]
theorem axis1 (x : List Nat) : inSeq (.str x) [.str [99, 104, 105, 108, 100], .str [98, 101, 108, 111, 119], .str [110, 101, 120, 116]] = axisB x := by
  unfold inSeq axisB
  simp only [List.any_cons, List.any_nil, eqv, Bool.or_false]
  rw [Bool.eq_iff_iff]
  simp only [Bool.or_eq_true, beq_iff_eq]
  constructor
  · rintro (e | e | e) <;> subst e <;> simp
  · rintro ((e | e) | e) <;> subst e <;> simp
theorem axis2 (x : List Nat) : inSeq (.str x) [.str [98, 101, 108, 111, 119], .str [99, 104, 105, 108, 100], .str [110, 101, 120, 116]] = axisB x := by
  unfold inSeq axisB
  simp only [List.any_cons, List.any_nil, eqv, Bool.or_false]
  rw [Bool.eq_iff_iff]
  simp only [Bool.or_eq_true, beq_iff_eq]
  constructor
  · rintro (e | e | e) <;> subst e <;> simp
  · rintro ((e | e) | e) <;> subst e <;> simp
def textB : List D → Bool
  | [] => true
  | [t] => soughtB t
  | _ => false
def hasB : List D → Bool
  | [] => true
  | [t, s] => tagB t && soughtB s
  | _ => false
def stepB : D → Bool
  | .tup [a, b, c, t, s, n] => strP axisB a && tagB b && tupP marksB c && tupP textB t && tupP hasB s && intP (fun n => decide (0 ≤ n) && decide (n ≤ 3)) n
  | _ => false
theorem w_text {d : D} {l : L} (k : okD d = true) {i : Nat} {m1 : L → M D} (e0 : m1 l = R.ok d) {QB : Bool → Hc → Prop} :
    wp (orT (andT (toT (callV isiD (consA m1 (consA (cst (.ty "tuple")) nilA)))) (toTB (op2 eqD m1 (tupV nilA)))) (andT (toT (callF m_is_tuple_of (consA m1 (consA (cst (.int 1)) nilA)))) (toT (callF m_is_sought (consA (op2 ixD m1 (cst (.int 0))) nilA)))) l) QB h
      = QB (tupP textB d) h := by
  have k' := okD_dat k
  cases d with
  | tup tx =>
    match tx, k, k' with
    | [], k, k' => simp [tupP, e0, isi_tup k', isTup, eqD_ok k okD_nil, eqv, eqvs, textB]
    | [t], k, k' => simp [tupP, e0, isi_tup k', isTup, eqD_ok k okD_nil, eqv, eqvs, w_is_tuple_of k', tupOfB, w_is_sought (okD_dat (okD_tup k (List.mem_cons_self))), textB]
    | t :: t' :: r, k, k' => simp [tupP, e0, isi_tup k', isTup, eqD_ok k okD_nil, eqv, eqvs, w_is_tuple_of k', tupOfB, textB]; omega
  | _ => simp [tupP, e0, isi_tup k', isTup, w_is_tuple_of k', tupOfB]
theorem w_has {d : D} {l : L} (k : okD d = true) {m1 : L → M D} (e0 : m1 l = R.ok d) {QB : Bool → Hc → Prop} :
    wp (orT (andT (toT (callV isiD (consA m1 (consA (cst (.ty "tuple")) nilA)))) (toTB (op2 eqD m1 (tupV nilA)))) (andT (toT (callF m_is_tuple_of (consA m1 (consA (cst (.int 2)) nilA)))) (andT (toT (callF m_is_tag (consA (op2 ixD m1 (cst (.int 0))) nilA))) (toT (callF m_is_sought (consA (op2 ixD m1 (cst (.int 1))) nilA))))) l) QB h
      = QB (tupP hasB d) h := by
  have k' := okD_dat k
  cases d with
  | tup tx =>
    match tx, k, k' with
    | [], k, k' => simp [tupP, e0, isi_tup k', isTup, eqD_ok k okD_nil, eqv, eqvs, hasB]
    | [t], k, k' => simp [tupP, e0, isi_tup k', isTup, eqD_ok k okD_nil, eqv, eqvs, w_is_tuple_of k', tupOfB, hasB]
    | [t, s], k, k' =>
      simp [tupP, e0, isi_tup k', isTup, eqD_ok k okD_nil, eqv, eqvs, w_is_tuple_of k', tupOfB, w_is_tag (okD_tup k (List.mem_cons_self)), w_is_sought (okD_dat (okD_tup k (List.mem_cons_of_mem _ (List.mem_cons_self)))), hasB]
      cases tagB t <;> simp
    | t :: t' :: t2 :: r, k, k' => simp [tupP, e0, isi_tup k', isTup, eqD_ok k okD_nil, eqv, eqvs, w_is_tuple_of k', tupOfB, hasB]; omega
  | _ => simp [tupP, e0, isi_tup k', isTup, w_is_tuple_of k', tupOfB]
end Mz

namespace Mz
variable {Q : D → Hc → Prop} {h : Hc} {d : D}
theorem stepB_len {ds : List D} (e : ds.length ≠ 6) : stepB (.tup ds) = false := by
  unfold stepB
  split
  · rename_i q
    injection q with q
    subst q
    simp at e
  · rfl
theorem len6 {ds : List D} (e : ds.length = 6) : ∃ a b c d e f, ds = [a, b, c, d, e, f] := by
  match ds with
  | [a, b, c, d, e, f] => exact ⟨a, b, c, d, e, f, rfl⟩
  | [] => simp at e
  | [_] => simp at e
  | [_, _] => simp at e
  | [_, _, _] => simp at e
  | [_, _, _, _] => simp at e
  | [_, _, _, _, _] => simp at e
  | _ :: _ :: _ :: _ :: _ :: _ :: _ :: _ => simp at e
theorem stepB_6 (a b c t s n : D) : stepB (.tup [a, b, c, t, s, n]) = (strP axisB a && tagB b && tupP marksB c && tupP textB t && tupP hasB s && intP (fun n => decide (0 ≤ n) && decide (n ≤ 3)) n) := rfl
theorem w_is_step (k : okD d = true) : wp (m_is_step [d]) Q h = Q (.bl (stepB d)) h := by
  have k' := okD_dat k
  unfold m_is_step b_is_step
  rw [wp_body1]
  cases d with
  | tup ds =>
    by_cases e6 : ds.length = 6
    · obtain ⟨a, b, c, t, s, n, rfl⟩ := len6 e6
      have ka := okD_tup k (x := a) (by simp)
      have kb := okD_tup k (x := b) (by simp)
      have kc := okD_tup k (x := c) (by simp)
      have kt := okD_tup k (x := t) (by simp)
      have ks := okD_tup k (x := s) (by simp)
      have kn := okD_tup k (x := n) (by simp)
      have e7 : List.replicate (7 - 1) (none : Option D) = [none, none, none, none, none, none] := rfl
      rw [stepB_6]
      simp only [wpS_seq, wpS_if, wp_notT, wp_toT, wp_callF, wp_consA, wp_nilA, getL_cons0, wp_okM', cst_eq, c_STEP_PARTS, w_is_tuple_of k', tupOfB, truD_bl, gives_some, List.length_cons, List.length_nil, wpS_asg, wpS_ret, wpS_next, e7]
      have g : tupG 6 (consG (nameG 1) (consG (nameG 2) (consG (nameG 3) (consG (nameG 4) (consG (nameG 5) (consG (nameG 6) nilG)))))) (.tup [a, b, c, t, s, n]) [some (.tup [a, b, c, t, s, n]), none, none, none, none, none, none] = some [some (.tup [a, b, c, t, s, n]), some a, some b, some c, some t, some s, some n] := rfl
      simp only [g, gives_some]
      simp only [w_text kt (m1 := getL 4) (i := 0) (l := [some (.tup [a, b, c, t, s, n]), some a, some b, some c, some t, some s, some n]) rfl, w_has ks (m1 := getL 5) (l := [some (.tup [a, b, c, t, s, n]), some a, some b, some c, some t, some s, some n]) rfl]
      have hb : ∀ Q : D → Hc → Prop, wp (m_is_between [n, .int 0, .int 3]) Q h = Q (.bl (intP (fun n => decide (0 ≤ n) && decide (n ≤ 3)) n)) h := fun Q => by
        rw [w_is_between (okD_dat kn)]
        cases n <;> rfl
      cases a with
      | str ax =>
        have na : notInD h (.str ax) c_AXES = some (.bl (!axisB ax)) := by
          rw [← axis1]; exact notInD_tup rfl
        simp [isi_str (okD_dat ka), isStr, na, w_is_tag kb, w_are_marks kc, strP, c_MOST_NTH, hb]
        cases axisB ax <;> cases tagB b <;> cases tupP marksB c <;> cases tupP textB t <;> cases tupP hasB s <;> simp
      | _ => simp [isi_str (okD_dat ka), isStr, strP]
    · rw [stepB_len e6]
      have z : ¬ ((ds.length : Int) = 6) := by omega
      simp [w_is_tuple_of k', tupOfB, c_STEP_PARTS, z]
  | _ => simp [w_is_tuple_of k', tupOfB, stepB, c_STEP_PARTS]
end Mz

namespace Mz
variable {Q : D → Hc → Prop} {h : Hc} {d : D}
theorem isTup_of {d : D} (e : isTup d = true) : ∃ x, d = .tup x := by
  cases d <;> first | exact ⟨_, rfl⟩ | cases e
theorem tupP_f {p : List D → Bool} {d : D} (e : isTup d = false) : tupP p d = false := by
  cases d <;> first | rfl | cases e
end Mz

namespace Mz
variable {Q : D → Hc → Prop} {h : Hc} {d : D}
theorem objL_new {h : Hc} {y : List D} : objL (h ++ [.lst y]) h.length = some y := by
  unfold objL
  simp
theorem set_new {h : Hc} {y z : O} : (h ++ [y]).set h.length z = h ++ [z] := by
  rw [List.set_append_right _ _ (Nat.le_refl _)]
  simp
def nthP : D → Bool
  | .tup [_, _, _, _, _, n] => intP (fun n => decide (0 < n)) n
  | _ => false
def hasP : D → Bool
  | .tup [_, _, _, _, s, _] => !eqv s (.tup [])
  | _ => false
def textsOf : D → List D
  | .tup [_, _, _, .tup tx, .tup hs, _] => tx ++ cut hs (some 1) none
  | _ => []
def nextP : List D → Bool
  | .tup (a :: _) :: _ => eqv a (.str [110, 101, 120, 116])
  | _ => false
def strsD (ds : List D) : List (List Nat) := (txs ds).getD []
def finT (ds : List D) : Bool := !nextP ds && decide ((((ds.filter nthP).length : Nat) : Int) ≤ 1) && decide ((((ds.filter hasP).length : Nat) : Int) ≤ 2) && decide ((((sortU (strsD (ds.flatMap textsOf))).length : Nat) : Int) ≤ 3)
def finB (d : D) : Bool := tupP (fun ds => decide ((1 : Int) ≤ (ds.length : Nat)) && decide (((ds.length : Nat) : Int) ≤ 4) && ds.all stepB && finT ds) d
theorem step_parts {d : D} (k : okD d = true) (e : stepB d = true) : ∃ ax b mk tx hs n, d = .tup [.str ax, b, .tup mk, .tup tx, .tup hs, .int n] ∧ okD (.tup hs) = true ∧ (∃ xs : List (List Nat), tx = xs.map D.str ∧ xs.length ≤ 1) ∧ ∃ ys : List (List Nat), cut hs (some 1) none = ys.map D.str ∧ ys.length ≤ 1 := by
  cases d with
  | tup ds =>
    by_cases e6 : ds.length = 6
    · obtain ⟨a, b, c, t, s, n, rfl⟩ := len6 e6
      rw [stepB_6] at e
      simp only [Bool.and_eq_true] at e
      obtain ⟨⟨⟨⟨⟨e1, e2⟩, e3⟩, e4⟩, e5⟩, e7⟩ := e
      cases a with
      | str ax =>
        obtain ⟨mk, rfl⟩ := isTup_of (d := c) (by cases c <;> first | rfl | cases e3)
        obtain ⟨tx, rfl⟩ := isTup_of (d := t) (by cases t <;> first | rfl | cases e4)
        obtain ⟨hs, rfl⟩ := isTup_of (d := s) (by cases s <;> first | rfl | cases e5)
        cases n with
        | int n =>
          refine ⟨ax, b, mk, tx, hs, n, rfl, okD_tup k (by simp), ?_, ?_⟩
          · match tx, e4 with
            | [], _ => exact ⟨[], rfl, by simp⟩
            | [x], e4 =>
              cases x with
              | str z => exact ⟨[z], rfl, by simp⟩
              | _ => cases e4
            | _ :: _ :: _, e4 => cases e4
          · match hs, e5 with
            | [], _ => exact ⟨[], rfl, by simp⟩
            | [x], e5 => cases e5
            | [x, y], e5 =>
              have e5 : (tagB x && soughtB y) = true := e5
              rw [Bool.and_eq_true] at e5
              cases y with
              | str z => exact ⟨[z], rfl, by simp⟩
              | _ => cases e5.2
            | _ :: _ :: _ :: _, e5 => cases e5
        | _ => cases e7
      | _ => cases e1
    · rw [stepB_len e6] at e; cases e
  | _ => cases e
theorem txs_strs : ∀ zs : List (List Nat), txs (zs.map D.str) = some zs
  | [] => rfl
  | z :: zs => by simp [txs, txs_strs zs]
theorem texts_all : ∀ (ds : List D), (∀ d ∈ ds, okD d = true ∧ stepB d = true) → ∃ zs : List (List Nat), ds.flatMap textsOf = zs.map D.str ∧ zs.length ≤ 2 * ds.length
  | [], _ => ⟨[], rfl, by simp⟩
  | d :: ds, k => by
    obtain ⟨zs, e, l⟩ := texts_all ds fun x hx => k x (List.mem_cons_of_mem _ hx)
    obtain ⟨ax, b, mk, tx, hs, n, rfl, _, ⟨xs, e1, l1⟩, ys, e2, l2⟩ := step_parts (k d List.mem_cons_self).1 (k d List.mem_cons_self).2
    refine ⟨xs ++ ys ++ zs, ?_, by simp; omega⟩
    rw [List.flatMap_cons, e]
    show (tx ++ cut hs (some 1) none) ++ zs.map D.str = _
    rw [e1, e2]; simp
theorem big {n : Nat} (e : n ≤ 1000) : n ≤ PySem.sizeLine := by
  have : 1000 ≤ PySem.sizeLine := by decide
  omega
def InvT (ds : List D) (h : Hc) (rest : List D) (l : L) (h' : Hc) : Prop := ∃ done x2 x3 x4 x5 x6 x7, ds = done ++ rest ∧ l = [some (.tup ds), some (.ref h.length), x2, x3, x4, x5, x6, x7] ∧ h' = h ++ [.lst (done.flatMap textsOf)]
theorem w_texts_of {ds : List D} (k : ∀ d ∈ ds, okD d = true ∧ stepB d = true) (len : ds.length ≤ 4) (q : Q (.lst ((sortU (strsD (ds.flatMap textsOf))).map D.str)) (h ++ [.lst (ds.flatMap textsOf)])) : wp (m_texts_of [.tup ds]) Q h := by
  unfold m_texts_of b_texts_of
  rw [wp_body1]
  obtain ⟨zs, ez, lz⟩ := texts_all ds k
  have e8 : List.replicate (8 - 1) (none : Option D) = [none, none, none, none, none, none, none] := rfl
  rw [e8, wpS_seq, wpS_set, wp_lstN, wp_nilA]
  refine ⟨big (by simp), ?_⟩
  rw [wpS_seq]
  refine wpS_for (InvT ds h) (ds := ds) (h' := h ++ [.lst []]) rfl ⟨[], none, none, none, none, none, none, rfl, rfl, rfl⟩ ?_ ?_
  · rintro d rest l h' ⟨done, x2, x3, x4, x5, x6, x7, ed, rfl, rfl⟩
    obtain ⟨kd, sd⟩ := k d (by rw [ed]; simp)
    obtain ⟨ax, b, mk, tx, hs, n, rfl, _, ⟨xs, e1, l1⟩, ys, e2, l2⟩ := step_parts kd sd
    refine ⟨[some (.tup ds), some (.ref h.length), some (.str ax), some b, some (.tup mk), some (.tup tx), some (.tup hs), some (.int n)], rfl, ?_⟩
    obtain ⟨zd, ezd, lzd⟩ := texts_all done fun d hd => k d (by rw [ed]; simp [hd])
    have ld : done.length ≤ 4 := by have := congrArg List.length ed; simp at this; omega
    have l2' : (cut hs (some 1) none).length ≤ 1 := by rw [e2]; simpa using l2
    have l1' : tx.length ≤ 1 := by rw [e1]; simpa using l1
    have z1 : tx.length + (cut hs (some 1) none).length ≤ PySem.sizeLine := big (by omega)
    have z2 : (done.flatMap textsOf).length + (tx.length + (cut hs (some 1) none).length) ≤ PySem.sizeLine := big (by rw [ezd]; simp; omega)
    simp [objL_new, z1]
    rw [wp_extH objL_new (by simpa using z2), set_new]
    refine ⟨done ++ [.tup [.str ax, b, .tup mk, .tup tx, .tup hs, .int n]], some (.str ax), some b, some (.tup mk), some (.tup tx), some (.tup hs), some (.int n), by rw [ed]; simp, rfl, ?_⟩
    simp [textsOf]
  · rintro l h' ⟨done, x2, x3, x4, x5, x6, x7, ed, rfl, rfl⟩
    rw [List.append_nil] at ed
    subst ed
    have es : setTx (h ++ [.lst (ds.flatMap textsOf)]) [.ref h.length] = some (sortU (strsD (ds.flatMap textsOf))) := by
      unfold setTx
      simp only [seqD_ref, objL_new, Option.bind_some]
      have : (ds.flatMap textsOf).length < 60 := by rw [ez]; simp; omega
      rw [if_pos this, ez]
      simp [strsD, txs_strs]
    simp [es]
    simpa using q
end Mz

namespace Mz
variable {Q : D → Hc → Prop} {h : Hc} {d : D}
theorem nth_at {d : D} (k : okD d = true) (e : stepB d = true) {l : L} {m1 : L → M D} (e0 : m1 l = R.ok d) : toTB (op2 gtD (op2 ixD m1 (cst (.int 5))) (cst (.int 0))) l h = .ok (nthP d) h := by
  obtain ⟨ax, b, mk, tx, hs, n, rfl, _⟩ := step_parts k e
  exact ok_of_wp (by simp [e0, nthP, intP])
theorem has_at {d : D} (k : okD d = true) (e : stepB d = true) {l : L} {m1 : L → M D} (e0 : m1 l = R.ok d) : toTB (op2 neD (op2 ixD m1 (cst (.int 4))) (tupV nilA)) l h = .ok (hasP d) h := by
  obtain ⟨ax, b, mk, tx, hs, n, rfl, ks, _⟩ := step_parts k e
  have sz : (0 : Nat) ≤ PySem.sizeLine := Nat.zero_le _
  exact ok_of_wp (by simp [e0, hasP, neD_ok ks okD_nil])
theorem next_at {ds : List D} (k : ∀ d ∈ ds, okD d = true ∧ stepB d = true) (n1 : 1 ≤ ds.length) : ∃ y, L2.atI ds 0 = some y ∧ ∃ z, ixD h y (.int 0) = some z ∧ eqD h z (.str [110, 101, 120, 116]) = some (.bl (nextP ds)) := by
  match ds, n1 with
  | d :: r, _ =>
    obtain ⟨kd, sd⟩ := k d List.mem_cons_self
    obtain ⟨ax, b, mk, tx, hs, n, rfl, _⟩ := step_parts kd sd
    exact ⟨_, atI_0, .str ax, by rw [ixD_tup]; exact atI_0, rfl⟩
theorem w_is_finder (k : okD d = true) (q : ∀ r, Q (.bl (finB d)) (h ++ r)) : wp (m_is_finder [d]) Q h := by
  have k' := okD_dat k
  have q0 := q []
  rw [List.append_nil] at q0
  unfold m_is_finder b_is_finder
  rw [wp_body1, show List.replicate (2 - 1) (none : Option D) = [none] from rfl, wpS_seq, wpS_if]
  cases d with
  | tup ds =>
    have key : ∀ Q : D → Hc → Prop, wp (lcV (itV (getL 0)) (nameG 1) yesT (callF m_is_step (consA (getL 1) nilA)) [1] [some (.tup ds), none]) Q h = Q (.lst (ds.map fun d => .bl (stepB d))) h := fun Q =>
      lc_items (fun d => .bl (stepB d)) rfl fun x hx => ok_of_wp (by simp [wipeL, w_is_step (okD_tup k hx)])
    have fin : finB (.tup ds) = (decide ((1 : Int) ≤ (ds.length : Nat)) && decide (((ds.length : Nat) : Int) ≤ 4) && ds.all stepB && finT ds) := rfl
    have c1 : ∀ QB : Bool → Hc → Prop, wp (orT (notT (toT (callV isiD (consA (getL 0) (consA (cst (.ty "tuple")) (nilA)))))) (orT (notT (toTB (op2c leD leD (cst (.int 1)) (callV lenD (consA (getL 0) (nilA))) (cst (c_MOST_STEPS))))) (notT (toT (callV allD (consA (lcV (itV (getL 0)) (nameG 1) (yesT) (callF m_is_step (consA (getL 1) (nilA))) [1]) (nilA)))))) [some (.tup ds), none]) QB h
        = QB (!(decide ((1 : Int) ≤ (ds.length : Nat)) && decide (((ds.length : Nat) : Int) ≤ 4) && ds.all stepB)) h := fun QB => by
      by_cases z1 : (1 : Int) ≤ (ds.length : Nat) <;> by_cases z2 : ((ds.length : Nat) : Int) ≤ 4 <;> simp [isi_tup k', isTup, z1, z2, c_MOST_STEPS, key, allD_map]
    rw [c1]
    cases z : (decide ((1 : Int) ≤ (ds.length : Nat)) && decide (((ds.length : Nat) : Int) ≤ 4) && ds.all stepB) with
    | false =>
      rw [fin, z, Bool.false_and] at q0
      exact q0
    | true =>
      rw [fin, z, Bool.true_and] at q q0
      simp only [Bool.and_eq_true, decide_eq_true_eq, List.all_eq_true] at z
      have ks : ∀ d ∈ ds, okD d = true ∧ stepB d = true := fun d hd => ⟨okD_tup k hd, z.2 d hd⟩
      obtain ⟨y, g1, zz, g2, g3⟩ := next_at (h := h) ks (by omega)
      rw [Bool.not_true, if_neg Bool.false_ne_true, wpS_next, wpS_seq, wpS_if]
      have cn : ∀ Q : D → Hc → Prop, wp (lcV (itV (getL 0)) (nameG 1) (toTB (op2 gtD (op2 ixD (getL 1) (cst (.int 5))) (cst (.int 0)))) (getL 1) [1] [some (.tup ds), none]) Q h = Q (.lst (ds.filter nthP)) h := fun Q =>
        lc_some nthP rfl fun x hx => ⟨nth_at (ks x hx).1 (ks x hx).2 rfl, rfl⟩
      have ch : ∀ Q : D → Hc → Prop, wp (lcV (itV (getL 0)) (nameG 1) (toTB (op2 neD (op2 ixD (getL 1) (cst (.int 4))) (tupV nilA))) (getL 1) [1] [some (.tup ds), none]) Q h = Q (.lst (ds.filter hasP)) h := fun Q =>
        lc_some hasP rfl fun x hx => ⟨has_at (ks x hx).1 (ks x hx).2 rfl, rfl⟩
      have c2 : ∀ QB : Bool → Hc → Prop, wp (orT (toTB (op2 eqD (op2 ixD (op2 ixD (getL 0) (cst (.int 0))) (cst (.int 0))) (cst (c_NEXT)))) (toTB (op2 gtD (callV lenD (consA (lcV (itV (getL 0)) (nameG 1) (toTB (op2 gtD (op2 ixD (getL 1) (cst (.int 5))) (cst (.int 0)))) (getL 1) [1]) (nilA))) (cst (.int 1)))) [some (.tup ds), none]) QB h
          = QB (!(!nextP ds && decide ((((ds.filter nthP).length : Nat) : Int) ≤ 1))) h := fun QB => by
        have e : decide ((1 : Int) < ((ds.filter nthP).length : Nat)) = !decide ((((ds.filter nthP).length : Nat) : Int) ≤ 1) := by
          by_cases w : (((ds.filter nthP).length : Nat) : Int) ≤ 1
          · simp [w]
          · simp [w]; omega
        simp only [wp_orT, wp_toTB, wp_op2, getL_cons0, wp_okM', cst_eq, ixD_tup, g1, gives_some, g2, c_NEXT, g3, asB_bl, wp_callV, wp_consA, wp_nilA, cn, lenD_lst, gtD_int, e]
        cases nextP ds <;> simp
      rw [c2]
      unfold finT at q q0
      cases z3 : (!nextP ds && decide ((((ds.filter nthP).length : Nat) : Int) ≤ 1)) with
      | false => rw [z3] at q0; exact q0
      | true =>
        rw [z3, Bool.true_and] at q q0
        rw [Bool.not_true, if_neg Bool.false_ne_true, wpS_next, wpS_ret]
        simp only [wp_andV, wp_op2, wp_callV, wp_consA, wp_nilA, ch, lenD_lst, gives_some, cst_eq, wp_okM', c_MOST_HAS, leD_int, truD_bl]
        cases z4 : decide ((((ds.filter hasP).length : Nat) : Int) ≤ 2) with
        | false => rw [z4, Bool.false_and] at q0; simpa using q0
        | true =>
          rw [z4, Bool.true_and] at q
          rw [if_pos rfl]
          simp only [wp_callF, wp_consA, wp_nilA, getL_cons0, wp_okM']
          refine w_texts_of ks (by omega) ?_
          simp only [lenD_lst, gives_some, c_MOST_TEXTS, leD_int, List.length_map]
          exact q _
  | _ =>
    simp [-wpS_seq, isi_tup k', isTup]
    exact q0
end Mz

namespace Mz
variable {Q : D → Hc → Prop} {h : Hc} {d : D}
theorem setL_0 {a0 x : Option D} {r : L} : List.set (a0 :: r) 0 x = x :: r := rfl
theorem setL_1 {a0 a1 x : Option D} {r : L} : List.set (a0 :: a1 :: r) 1 x = a0 :: x :: r := rfl
theorem setL_2 {a0 a1 a2 x : Option D} {r : L} : List.set (a0 :: a1 :: a2 :: r) 2 x = a0 :: a1 :: x :: r := rfl
theorem setL_3 {a0 a1 a2 a3 x : Option D} {r : L} : List.set (a0 :: a1 :: a2 :: a3 :: r) 3 x = a0 :: a1 :: a2 :: x :: r := rfl
theorem setL_4 {a0 a1 a2 a3 a4 x : Option D} {r : L} : List.set (a0 :: a1 :: a2 :: a3 :: a4 :: r) 4 x = a0 :: a1 :: a2 :: a3 :: x :: r := rfl
theorem setL_5 {a0 a1 a2 a3 a4 a5 x : Option D} {r : L} : List.set (a0 :: a1 :: a2 :: a3 :: a4 :: a5 :: r) 5 x = a0 :: a1 :: a2 :: a3 :: a4 :: x :: r := rfl
theorem setL_6 {a0 a1 a2 a3 a4 a5 a6 x : Option D} {r : L} : List.set (a0 :: a1 :: a2 :: a3 :: a4 :: a5 :: a6 :: r) 6 x = a0 :: a1 :: a2 :: a3 :: a4 :: a5 :: x :: r := rfl
theorem setL_7 {a0 a1 a2 a3 a4 a5 a6 a7 x : Option D} {r : L} : List.set (a0 :: a1 :: a2 :: a3 :: a4 :: a5 :: a6 :: a7 :: r) 7 x = a0 :: a1 :: a2 :: a3 :: a4 :: a5 :: a6 :: x :: r := rfl
theorem setL_8 {a0 a1 a2 a3 a4 a5 a6 a7 a8 x : Option D} {r : L} : List.set (a0 :: a1 :: a2 :: a3 :: a4 :: a5 :: a6 :: a7 :: a8 :: r) 8 x = a0 :: a1 :: a2 :: a3 :: a4 :: a5 :: a6 :: a7 :: x :: r := rfl
theorem setL_9 {a0 a1 a2 a3 a4 a5 a6 a7 a8 a9 x : Option D} {r : L} : List.set (a0 :: a1 :: a2 :: a3 :: a4 :: a5 :: a6 :: a7 :: a8 :: a9 :: r) 9 x = a0 :: a1 :: a2 :: a3 :: a4 :: a5 :: a6 :: a7 :: a8 :: x :: r := rfl
theorem setL_10 {a0 a1 a2 a3 a4 a5 a6 a7 a8 a9 a10 x : Option D} {r : L} : List.set (a0 :: a1 :: a2 :: a3 :: a4 :: a5 :: a6 :: a7 :: a8 :: a9 :: a10 :: r) 10 x = a0 :: a1 :: a2 :: a3 :: a4 :: a5 :: a6 :: a7 :: a8 :: a9 :: x :: r := rfl
theorem setL_11 {a0 a1 a2 a3 a4 a5 a6 a7 a8 a9 a10 a11 x : Option D} {r : L} : List.set (a0 :: a1 :: a2 :: a3 :: a4 :: a5 :: a6 :: a7 :: a8 :: a9 :: a10 :: a11 :: r) 11 x = a0 :: a1 :: a2 :: a3 :: a4 :: a5 :: a6 :: a7 :: a8 :: a9 :: a10 :: x :: r := rfl
theorem setL_12 {a0 a1 a2 a3 a4 a5 a6 a7 a8 a9 a10 a11 a12 x : Option D} {r : L} : List.set (a0 :: a1 :: a2 :: a3 :: a4 :: a5 :: a6 :: a7 :: a8 :: a9 :: a10 :: a11 :: a12 :: r) 12 x = a0 :: a1 :: a2 :: a3 :: a4 :: a5 :: a6 :: a7 :: a8 :: a9 :: a10 :: a11 :: x :: r := rfl
theorem setL_13 {a0 a1 a2 a3 a4 a5 a6 a7 a8 a9 a10 a11 a12 a13 x : Option D} {r : L} : List.set (a0 :: a1 :: a2 :: a3 :: a4 :: a5 :: a6 :: a7 :: a8 :: a9 :: a10 :: a11 :: a12 :: a13 :: r) 13 x = a0 :: a1 :: a2 :: a3 :: a4 :: a5 :: a6 :: a7 :: a8 :: a9 :: a10 :: a11 :: a12 :: x :: r := rfl
theorem setL_14 {a0 a1 a2 a3 a4 a5 a6 a7 a8 a9 a10 a11 a12 a13 a14 x : Option D} {r : L} : List.set (a0 :: a1 :: a2 :: a3 :: a4 :: a5 :: a6 :: a7 :: a8 :: a9 :: a10 :: a11 :: a12 :: a13 :: a14 :: r) 14 x = a0 :: a1 :: a2 :: a3 :: a4 :: a5 :: a6 :: a7 :: a8 :: a9 :: a10 :: a11 :: a12 :: a13 :: x :: r := rfl
theorem setL_15 {a0 a1 a2 a3 a4 a5 a6 a7 a8 a9 a10 a11 a12 a13 a14 a15 x : Option D} {r : L} : List.set (a0 :: a1 :: a2 :: a3 :: a4 :: a5 :: a6 :: a7 :: a8 :: a9 :: a10 :: a11 :: a12 :: a13 :: a14 :: a15 :: r) 15 x = a0 :: a1 :: a2 :: a3 :: a4 :: a5 :: a6 :: a7 :: a8 :: a9 :: a10 :: a11 :: a12 :: a13 :: a14 :: x :: r := rfl
/-- the pot at n: its counter has gone at most to c -/
def Pot (h : Hc) (n c : Nat) : Prop := ∃ own mix cnt : Int, objL h n = some [.int own, .int mix, .int cnt] ∧ 0 ≤ mix ∧ mix < 2 ^ 62 ∧ 0 ≤ cnt ∧ cnt ≤ c
/-- nothing but the pot has changed, there may be more -/
def Ev (n : Nat) (h h' : Hc) : Prop := h.length ≤ h'.length ∧ ∀ m, m < h.length → m ≠ n → h'[m]? = h[m]?
theorem Ev.refl (n : Nat) (h : Hc) : Ev n h h := ⟨Nat.le_refl _, fun _ _ _ => rfl⟩
theorem Ev.trans {n : Nat} {a b c : Hc} (x : Ev n a b) (y : Ev n b c) : Ev n a c := ⟨Nat.le_trans x.1 y.1, fun m hm ne => by rw [y.2 m (by have := x.1; omega) ne, x.2 m hm ne]⟩
theorem Ev.set {n : Nat} {h : Hc} {o : O} : Ev n h (h.set n o) := ⟨by simp, fun m _ ne => by rw [List.getElem?_set_ne (Ne.symm ne)]⟩
theorem Ev.app {n : Nat} {h r : Hc} : Ev n h (h ++ r) := ⟨by simp, fun m hm _ => by rw [List.getElem?_append_left hm]⟩
theorem Ev.objL {n m : Nat} {h h' : Hc} {x : List D} (e : Ev n h h') (ne : m ≠ n) (k : objL h m = some x) : objL h' m = some x := by
  have hm := objL_some k
  have hl : m < h.length := (List.getElem?_eq_some_iff.mp hm).1
  unfold Mz.objL
  rw [e.2 m hl ne, hm]
theorem Pot.app {n c : Nat} {h r : Hc} (p : Pot h n c) : Pot (h ++ r) n c := by
  obtain ⟨o, m, t, e, k⟩ := p
  refine ⟨o, m, t, ?_, k⟩
  have hm := objL_some e
  have hl : n < h.length := (List.getElem?_eq_some_iff.mp hm).1
  unfold Mz.objL
  rw [List.getElem?_append_left hl, hm]
theorem Pot.mono {n c c' : Nat} {h : Hc} (p : Pot h n c) (l : c ≤ c') : Pot h n c' := by
  obtain ⟨o, m, t, e, a, b, d, f⟩ := p
  exact ⟨o, m, t, e, a, b, d, by omega⟩
theorem objL_set {h : Hc} {n : Nat} {x y : List D} (k : objL h n = some x) : objL (h.set n (.lst y)) n = some y := by
  have hl : n < h.length := (List.getElem?_eq_some_iff.mp (objL_some k)).1
  unfold Mz.objL
  rw [List.getElem?_set_self hl]
theorem Pot.lt {n c : Nat} {h : Hc} (p : Pot h n c) : n < h.length := by
  obtain ⟨o, m, t, e, _⟩ := p
  exact (List.getElem?_eq_some_iff.mp (objL_some e)).1
theorem Pot.set {n m c : Nat} {h : Hc} {o : O} (p : Pot h n c) (ne : m ≠ n) : Pot (h.set m o) n c := by
  obtain ⟨a, b, t, e, k⟩ := p
  refine ⟨a, b, t, ?_, k⟩
  unfold Mz.objL at e ⊢
  rw [List.getElem?_set_ne ne]; exact e
abbrev LIM : Nat := 1099511627776
@[simp] theorem intTD_int {i : Int} : intTD h [.int i] = some (.int i) := rfl
@[simp] theorem intTD_bl {b : Bool} : intTD h [.bl b] = some (.int (if b then 1 else 0)) := rfl
theorem atI3_0 {a b c : D} : L2.atI [a, b, c] 0 = some a := rfl
theorem atI3_1 {a b c : D} : L2.atI [a, b, c] 1 = some b := rfl
theorem atI3_2 {a b c : D} : L2.atI [a, b, c] 2 = some c := rfl
theorem prime_at {c : Int} (h0 : 0 ≤ c) : ∃ p : Int, L2.atI [D.int 2147483647, .int 2147483629, .int 2147483587, .int 2147483579, .int 2147483563] (c % 5) = some (.int p) ∧ 0 < p ∧ p < 2 ^ 31 := by
  have h1 : 0 ≤ c % 5 := Int.emod_nonneg _ (by decide)
  have h2 : c % 5 < 5 := Int.emod_lt_of_pos _ (by decide)
  generalize c % 5 = r at h1 h2
  have : r = 0 ∨ r = 1 ∨ r = 2 ∨ r = 3 ∨ r = 4 := by omega
  rcases this with rfl | rfl | rfl | rfl | rfl
  · exact ⟨_, rfl, by decide, by decide⟩
  · exact ⟨_, rfl, by decide, by decide⟩
  · exact ⟨_, rfl, by decide, by decide⟩
  · exact ⟨_, rfl, by decide, by decide⟩
  · exact ⟨_, rfl, by decide, by decide⟩
theorem modD_ok {i j : Int} (p : 0 < j) : modD h (.int i) (.int j) = some (.int (i % j)) := by unfold modD; simp [p]
theorem fdivD_ok {i j : Int} (p : 0 < j) (q : j < 1073741824) : fdivD h (.int i) (.int j) = some (.int (i / j)) := by unfold fdivD L2.CDiv; simp [p, q]
theorem mulD_l {i j : Int} (p : -(2 ^ 64) < i ∧ i < 2 ^ 64) : mulD h (.int i) (.int j) = some (.int (i * j)) := by
  show (if L2.CMul i j then _ else _) = _
  exact if_pos (.inl p)
theorem mulD_r {i j : Int} (p : -(2 ^ 64) < j ∧ j < 2 ^ 64) : mulD h (.int i) (.int j) = some (.int (i * j)) := by
  show (if L2.CMul i j then _ else _) = _
  exact if_pos (.inr p)
theorem powD_3 {i : Int} (p : i.natAbs < 2 ^ 4096) : powD' h (.int i) (.int 3) = some (.int (i ^ 3)) := by
  unfold powD'
  simp only
  rw [if_pos ⟨by decide, by decide, p⟩]
  rfl
theorem sp_take {n c : Nat} {u : Int} (p : Pot h n c) (lim : c + 1 ≤ LIM) (u0 : 0 < u) (u1 : u < 1073741824) (q : ∀ r h', 0 ≤ r → r < u → Ev n h h' → Pot h' n (c + 1) → Q (.int r) h') : wp (m_law_take [.ref n, .int u]) Q h := by
  obtain ⟨own, mix, cnt, e, a1, a2, a3, a4⟩ := p
  have ix : ∀ i, ixD h (.ref n) (.int i) = L2.atI [.int own, .int mix, .int cnt] i := fun i => ixD_ref e
  unfold m_law_take b_law_take
  rw [wp_body2, show List.replicate (5 - 2) (none : Option D) = [none, none, none] from rfl, wpS_seq, wpS_if]
  simp only [wp_toTB, wp_op2, getL_cons0, wp_okM', cst_eq, ix, atI3_0, gives_some, gtD_int, asB_bl]
  by_cases z : 0 < own
  · rw [decide_eq_true z, if_pos rfl]
    simp only [wpS_seq, wpS_set, wp_op2, wp_callV, wp_consA, wp_nilA, getL_cons0, getL_1, wp_okM', cst_eq, ix, atI3_0, gives_some, intTD_int, modD_ok u0, wpS_put, wpS_ret, setL_4, fdivD_ok u0 u1]
    rw [wp_put (j := 0) e rfl]
    simp only [getL_4, getL_cons0, wp_okM']
    exact q _ _ (Int.emod_nonneg _ (by omega)) (Int.emod_lt_of_pos _ u0) Ev.set ⟨own / u, mix, cnt, objL_set e, a1, a2, a3, by omega⟩
  · rw [decide_eq_false z, if_neg Bool.false_ne_true, wpS_next]
    rw [wpS_seq, wpS_put]
    simp only [wp_op2, getL_cons0, wp_okM', cst_eq, ix, atI3_2, gives_some, addD_int]
    rw [wp_put (j := 2) e rfl]
    have e2 : objL (h.set n (.lst (([.int own, .int mix, .int cnt] : List D).set 2 (.int (cnt + 1))))) n = some [.int own, .int mix, .int (cnt + 1)] := objL_set e
    have ev : Ev n h (h.set n (.lst (([.int own, .int mix, .int cnt] : List D).set 2 (.int (cnt + 1))))) := Ev.set
    generalize h.set n (.lst (([.int own, .int mix, .int cnt] : List D).set 2 (.int (cnt + 1)))) = h2 at e2 ev
    have c1 : 0 ≤ cnt + 1 := by omega
    have c2 : cnt + 1 ≤ 1099511627776 := by
      have lim' : c + 1 ≤ 1099511627776 := lim
      omega
    have pot2 : Pot h2 n (c + 1) := ⟨own, mix, cnt + 1, e2, a1, a2, c1, by omega⟩
    generalize cnt + 1 = t at e2 c1 c2
    have ix2 : ∀ i, ixD h2 (.ref n) (.int i) = L2.atI [.int own, .int mix, .int t] i := fun i => ixD_ref e2
    obtain ⟨pr, ep, p0, p1⟩ := prime_at c1
    have sq1 : 0 ≤ 90413 * t * t := Int.mul_nonneg (by omega) c1
    have sq2 : 90413 * t * t ≤ 90413 * 1099511627776 * 1099511627776 := by
      have h1 : 90413 * t ≤ 90413 * 1099511627776 := by omega
      exact Int.mul_le_mul h1 c2 c1 (by decide)
    have big : (mix + 90413 * t * t + 137).natAbs < 2 ^ 4096 := by
      have : (mix + 90413 * t * t + 137).natAbs < 2 ^ 128 := by
        have h0 : 0 ≤ mix + 90413 * t * t + 137 := by omega
        have h3 : mix + 90413 * t * t + 137 < 2 ^ 128 := by
          have : (2 : Int) ^ 62 + 90413 * 1099511627776 * 1099511627776 + 137 < 2 ^ 128 := by decide
          omega
        omega
      exact Nat.lt_of_lt_of_le this (Nat.pow_le_pow_right (n := 2) (i := 128) (j := 4096) (by decide) (by decide))
    have sz : 5 ≤ PySem.sizeLine := by decide
    have t64 : -(2 ^ 64) < t ∧ t < 2 ^ 64 := by omega
    have m1 : mulD h2 (.int 90413) (.int t) = some (.int (90413 * t)) := mulD_l (by decide)
    have m2 : mulD h2 (.int (90413 * t)) (.int t) = some (.int (90413 * t * t)) := mulD_r t64
    have m3 : mulD h2 (.int 97) (.int t) = some (.int (97 * t)) := mulD_l (by decide)
    have x0 : 0 ≤ (mix + 90413 * t * t + 137) ^ 3 % pr := Int.emod_nonneg _ (by omega)
    have x1 : (mix + 90413 * t * t + 137) ^ 3 % pr < pr := Int.emod_lt_of_pos _ p0
    have pw : powD' h2 (.int (mix + 90413 * t * t + 137)) (.int 3) = some (.int ((mix + 90413 * t * t + 137) ^ 3)) := powD_3 big
    have m4 : mulD h2 (.int ((mix + 90413 * t * t + 137) ^ 3 % pr)) (.int ((mix + 90413 * t * t + 137) ^ 3 % pr % 10007 + 97 * t)) = some (.int ((mix + 90413 * t * t + 137) ^ 3 % pr * ((mix + 90413 * t * t + 137) ^ 3 % pr % 10007 + 97 * t))) := mulD_l (by omega)
    simp only [wpS_seq, wpS_set, wpS_ret, wp_op2, wp_lstV, wp_consA, wp_nilA, wp_callV, getL_cons0, getL_1, wp_okM', cst_eq, ix2, atI3_2, atI3_1, gives_some, intTD_int, modD_ok (show (0 : Int) < 5 by decide), ixD_lst, ep, List.length_cons, List.length_nil, setL_2, setL_3, m1, m2, m3, addD_int, pw, getL_2, getL_3, modD_ok p0, modD_ok (show (0 : Int) < 10007 by decide), m4, fdivD_ok (show (0 : Int) < 103 by decide) (by decide), modD_ok u0]
    exact ⟨by omega, q _ _ (Int.emod_nonneg _ (by omega)) (Int.emod_lt_of_pos _ u0) ev pot2⟩
theorem atI_mem {α : Type} {xs : List α} {r : Int} (r0 : 0 ≤ r) (r1 : r < xs.length) : ∃ x, L2.atI xs r = some x ∧ x ∈ xs := by
  unfold L2.atI L2.ixN
  rw [if_pos r0, if_pos r1]
  have : r.toNat < xs.length := by omega
  exact ⟨xs[r.toNat], by simp [this], List.getElem_mem _⟩
theorem sp_pick {n c : Nat} {xs : List D} (p : Pot h n c) (lim : c + 1 ≤ LIM) (u0 : 0 < xs.length) (u1 : xs.length < 1000) (q : ∀ d h', d ∈ xs → Ev n h h' → Pot h' n (c + 1) → Q d h') : wp (m_law_of [.ref n, .lst xs]) Q h := by
  unfold m_law_of b_law_of
  rw [wp_body2, wpS_ret]
  simp only [wp_op2, getL_1, getL_cons0, wp_okM', wp_callF, wp_consA, wp_callV, wp_nilA, lenD_lst, gives_some]
  refine sp_take p lim (by omega) (by omega) fun r h' r0 r1 ev p' => ?_
  obtain ⟨x, ex, mx⟩ := atI_mem r0 r1
  simp only [ixD_lst, ex, gives_some]
  exact q x h' mx ev p'
theorem sp_pickR {n m c : Nat} {xs : List D} (p : Pot h n c) (lim : c + 1 ≤ LIM) (em : objL h m = some xs) (ne : m ≠ n) (u0 : 0 < xs.length) (u1 : xs.length < 1000) (q : ∀ d h', d ∈ xs → Ev n h h' → Pot h' n (c + 1) → Q d h') : wp (m_law_of [.ref n, .ref m]) Q h := by
  unfold m_law_of b_law_of
  rw [wp_body2, wpS_ret]
  simp only [wp_op2, getL_1, getL_cons0, wp_okM', wp_callF, wp_consA, wp_callV, wp_nilA, lenD_ref em, gives_some]
  refine sp_take p lim (by omega) (by omega) fun r h' r0 r1 ev p' => ?_
  obtain ⟨x, ex, mx⟩ := atI_mem r0 r1
  simp only [ixD_ref (ev.objL ne em), ex, gives_some]
  exact q x h' mx ev p'
end Mz

namespace Mz
variable {Q : D → Hc → Prop} {h : Hc} {d : D}
/-- data of depth at most b, no sequence longer than k -/
def wf (k : Nat) : Nat → D → Bool
  | 0, d => flatD d
  | b + 1, d => match d with
    | .tup ds => decide (ds.length ≤ k) && ds.all (wf k b)
    | .lst ds => decide (ds.length ≤ k) && ds.all (wf k b)
    | d => flatD d
theorem flat_wf {k b : Nat} {d : D} (e : flatD d = true) : wf k b d = true := by
  cases b with
  | zero => exact e
  | succ b => cases d <;> first | exact e | cases e
theorem wf_tup {k b : Nat} {ds : List D} (l : ds.length ≤ k) (a : ∀ x ∈ ds, wf k b x = true) : wf k (b + 1) (.tup ds) = true := by
  show (decide (ds.length ≤ k) && ds.all (wf k b)) = true
  rw [Bool.and_eq_true, decide_eq_true_eq, List.all_eq_true]
  exact ⟨l, a⟩
theorem wf_lst {k b : Nat} {ds : List D} (l : ds.length ≤ k) (a : ∀ x ∈ ds, wf k b x = true) : wf k (b + 1) (.lst ds) = true := by
  show (decide (ds.length ≤ k) && ds.all (wf k b)) = true
  rw [Bool.and_eq_true, decide_eq_true_eq, List.all_eq_true]
  exact ⟨l, a⟩
theorem wf_of_tup {k b : Nat} {ds : List D} (e : wf k b (.tup ds) = true) : ∃ b', b = b' + 1 ∧ ds.length ≤ k ∧ ∀ x ∈ ds, wf k b' x = true := by
  cases b with
  | zero => cases e
  | succ b =>
    have e : (decide (ds.length ≤ k) && ds.all (wf k b)) = true := e
    rw [Bool.and_eq_true, decide_eq_true_eq, List.all_eq_true] at e
    exact ⟨b, rfl, e.1, e.2⟩
theorem wf_of_lst {k b : Nat} {ds : List D} (e : wf k b (.lst ds) = true) : ∃ b', b = b' + 1 ∧ ds.length ≤ k ∧ ∀ x ∈ ds, wf k b' x = true := by
  cases b with
  | zero => cases e
  | succ b =>
    have e : (decide (ds.length ≤ k) && ds.all (wf k b)) = true := e
    rw [Bool.and_eq_true, decide_eq_true_eq, List.all_eq_true] at e
    exact ⟨b, rfl, e.1, e.2⟩
theorem wf_mono {k k' : Nat} (l : k ≤ k') : ∀ (b b' : Nat) (d : D), b ≤ b' → wf k b d = true → wf k' b' d = true
  | 0, b', d, _, e => flat_wf e
  | b + 1, b', d, hb, e => by
    obtain ⟨c, rfl⟩ : ∃ c, b' = c + 1 := ⟨b' - 1, by omega⟩
    cases d with
    | tup ds =>
      obtain ⟨b0, e0, e1, e2⟩ := wf_of_tup e
      cases e0
      exact wf_tup (by omega) fun x hx => wf_mono l b c x (by omega) (e2 x hx)
    | lst ds =>
      obtain ⟨b0, e0, e1, e2⟩ := wf_of_lst e
      cases e0
      exact wf_lst (by omega) fun x hx => wf_mono l b c x (by omega) (e2 x hx)
    | _ => exact flat_wf e
theorem dats_of : ∀ {ds : List D}, (∀ x ∈ ds, dat x = true) → dats ds = true
  | [], _ => rfl
  | d :: ds, k => by
    show (dat d && dats ds) = true
    rw [k d List.mem_cons_self, dats_of fun x hx => k x (List.mem_cons_of_mem _ hx)]; rfl
theorem deps_of {n : Nat} : ∀ {ds : List D}, (∀ x ∈ ds, dep x ≤ n) → deps ds ≤ n
  | [], _ => Nat.zero_le _
  | d :: ds, k => by
    show max (dep d) (deps ds) ≤ n
    have a := k d List.mem_cons_self
    have b := deps_of (ds := ds) fun x hx => k x (List.mem_cons_of_mem _ hx)
    omega
theorem wf_dat {k : Nat} : ∀ (b : Nat) (d : D), wf k b d = true → dat d = true ∧ dep d ≤ b
  | 0, d, e => by cases d <;> first | exact ⟨rfl, Nat.le_refl _⟩ | cases e
  | b + 1, d, e => by
    cases d with
    | tup ds =>
      obtain ⟨b0, e0, e1, e2⟩ := wf_of_tup e
      cases e0
      refine ⟨dats_of fun x hx => (wf_dat b x (e2 x hx)).1, ?_⟩
      show deps ds + 1 ≤ b + 1
      have := deps_of (n := b) (ds := ds) fun x hx => (wf_dat b x (e2 x hx)).2
      omega
    | lst ds =>
      obtain ⟨b0, e0, e1, e2⟩ := wf_of_lst e
      cases e0
      refine ⟨dats_of fun x hx => (wf_dat b x (e2 x hx)).1, ?_⟩
      show deps ds + 1 ≤ b + 1
      have := deps_of (n := b) (ds := ds) fun x hx => (wf_dat b x (e2 x hx)).2
      omega
    | _ => first | exact ⟨rfl, Nat.zero_le _⟩ | cases e
theorem wf_ok {k b : Nat} {d : D} (e : wf k b d = true) (hb : b ≤ 64) : okD d = true := by
  obtain ⟨a, c⟩ := wf_dat b d e
  unfold okD
  rw [a, decide_eq_true (by omega)]; rfl
theorem cut_len' {α : Type} {xs : List α} {lo hi : Option Int} : (cut xs lo hi).length ≤ xs.length := by
  unfold cut
  rw [List.length_take, List.length_drop]
  omega
theorem sizeBig : (100000 : Nat) ≤ PySem.sizeLine := by decide
theorem sp_sought {n m c : Nat} {xs : List D} (p : Pot h n c) (lim : c + 2 ≤ LIM) (em : objL h m = some xs) (ne : m ≠ n) (u0 : 0 < xs.length) (u1 : xs.length < 1000) (q : ∀ ds h', ds.length ≤ 1 → (∀ d ∈ ds, d ∈ xs) → Ev n h h' → Pot h' n (c + 2) → Q (.tup ds) h') : wp (m_law_sought [.ref n, .ref m]) Q h := by
  unfold m_law_sought b_law_sought
  rw [wp_body2, wpS_ret]
  simp only [wp_ifV, wp_toTB, wp_op2, wp_callF, wp_consA, wp_nilA, getL_cons0, getL_1, wp_okM', cst_eq]
  refine sp_take p (by omega) (by decide) (by decide) fun r h' r0 r1 ev p' => ?_
  simp only [eqD_int, gives_some, asB_bl]
  cases r == 0 with
  | true =>
    rw [if_pos rfl]
    simp only [wp_tupV, wp_consA, wp_nilA, wp_callF, getL_cons0, getL_1, wp_okM']
    refine sp_pickR p' (by omega) (ev.objL ne em) ne u0 u1 fun d h2 md ev2 p2 => ?_
    exact ⟨by have := sizeBig; simp; omega, q [d] h2 (by simp) (by simpa using md) (ev.trans ev2) p2⟩
  | false =>
    rw [if_neg Bool.false_ne_true]
    simp only [wp_tupV, wp_nilA]
    exact ⟨by simp, q [] h' (by simp) (by simp) ev (p'.mono (by omega))⟩
end Mz

namespace Mz
variable {Q : D → Hc → Prop} {h : Hc} {d : D}
theorem objL_app {h r : Hc} {m : Nat} {x : List D} (k : objL h m = some x) : objL (h ++ r) m = some x := by
  have hm := objL_some k
  have hl : m < h.length := (List.getElem?_eq_some_iff.mp hm).1
  unfold Mz.objL
  rw [List.getElem?_append_left hl, hm]
theorem objL_at {h : Hc} {y : List D} : objL (h ++ [.lst y]) h.length = some y := by
  unfold objL
  simp
theorem objL_ne {h : Hc} {m n : Nat} {o : O} {x : List D} (k : objL h m = some x) (ne : n ≠ m) : objL (h.set n o) m = some x := by
  unfold Mz.objL at k ⊢
  rw [List.getElem?_set_ne ne]; exact k
theorem Ev.set' {n m : Nat} {h0 h : Hc} {o : O} (e : Ev n h0 h) (z : h0.length ≤ m) : Ev n h0 (h.set m o) := ⟨by simpa using e.1, fun j hj ne => by rw [List.getElem?_set_ne (by omega), e.2 j hj ne]⟩
end Mz

namespace Mz
variable {Q : D → Hc → Prop} {h : Hc} {d : D}
theorem pow_10_60 : powD' h (.int 10) (.int 60) = some (.int (10 ^ 60)) := by
  unfold powD'
  simp only
  rw [if_pos ⟨by decide, by decide, Nat.lt_of_lt_of_le (by decide : (10 : Int).natAbs < 2 ^ 4) (Nat.pow_le_pow_right (n := 2) (i := 4) (j := 4096) (by decide) (by decide))⟩]
  rfl
theorem pow_10_18 : powD' h (.int 10) (.int 18) = some (.int (10 ^ 18)) := by
  unfold powD'
  simp only
  rw [if_pos ⟨by decide, by decide, Nat.lt_of_lt_of_le (by decide : (10 : Int).natAbs < 2 ^ 4) (Nat.pow_le_pow_right (n := 2) (i := 4) (j := 4096) (by decide) (by decide))⟩]
  rfl
theorem pow_10_300 : powD' h (.int (10 ^ 60)) (.int 5) = some (.int ((10 ^ 60) ^ 5)) := by
  unfold powD'
  simp only
  rw [if_pos ⟨by decide, by decide, Nat.lt_of_lt_of_le (by decide : ((10 : Int) ^ 60).natAbs < 2 ^ 200) (Nat.pow_le_pow_right (n := 2) (i := 200) (j := 4096) (by decide) (by decide))⟩]
  rfl
theorem big_pow : ∃ A B C : Int, (∀ h, powD' h (.int 10) (.int 60) = some (.int A)) ∧ (∀ h, powD' h (.int A) (.int 5) = some (.int B)) ∧ (∀ h, powD' h (.int 10) (.int 18) = some (.int C)) ∧ 0 < B :=
  ⟨10 ^ 60, (10 ^ 60) ^ 5, 10 ^ 18, fun _ => pow_10_60, fun _ => pow_10_300, fun _ => pow_10_18, by decide⟩
theorem own_val {pw : Hc → D → D → Option D} {A B C : Int} (eA : ∀ h, pw h (.int 10) (.int 60) = some (.int A)) (eB : ∀ h, pw h (.int A) (.int 5) = some (.int B)) (eC : ∀ h, pw h (.int 10) (.int 18) = some (.int C)) (pB : 0 < B) {x y z : Option D} {i : Int} {K : D → Hc → Prop} (k : ∀ o : Int, K (.int o) h) :
    wp (op2 mulD (op2 modD (callV intTD (consA (callV absD (consA (getL 2) (nilA))) (nilA))) (op2 pw (op2 pw (cst (.int 10)) (cst (.int 60))) (cst (.int 5)))) (callV intTD (consA (op2 geD (callV absD (consA (getL 2) (nilA))) (op2 pw (cst (.int 10)) (cst (.int 18)))) (nilA))) [x, y, some (.int i), z]) K h := by
  simp only [wp_op2, wp_callV, wp_consA, wp_nilA, getL_2, getL_cons0, wp_okM', cst_eq, absD_int, gives_some, intTD_int, eA, eB, modD_ok pB, eC, geD_int, intTD_bl]
  have b01 : ∀ b : Bool, -(2 ^ 64) < (if b = true then (1 : Int) else 0) ∧ (if b = true then (1 : Int) else 0) < 2 ^ 64 := by decide
  rw [mulD_r (b01 _)]
  exact k _
theorem own_pow {x y z : Option D} {i : Int} {K : D → Hc → Prop} (k : ∀ o : Int, K (.int o) h) :
    wp (op2 mulD (op2 modD (callV intTD (consA (callV absD (consA (getL 2) (nilA))) (nilA))) (op2 powD' (op2 powD' (cst (.int 10)) (cst (.int 60))) (cst (.int 5)))) (callV intTD (consA (op2 geD (callV absD (consA (getL 2) (nilA))) (op2 powD' (cst (.int 10)) (cst (.int 18)))) (nilA))) [x, y, some (.int i), z]) K h :=
  big_pow.elim fun A hA => hA.elim fun B hB => hB.elim fun C hC => own_val (pw := powD') (A := A) (B := B) (C := C) hC.1 hC.2.1 hC.2.2.1 hC.2.2.2 k
theorem mix_val {P1 P2 : Int} (p1 : 0 < P1) (p1' : P1 < 2 ^ 62) (p2 : 0 < P2) (p2' : P2 < 2 ^ 62) {x z : Option D} {i k : Int} (k0 : 0 ≤ k) (k3 : k < 6) {K : D → Hc → Prop} (kk : ∀ m : Int, 0 ≤ m → m < 2 ^ 62 → K (.int m) h) :
    wp (op2 modD (callV intTD (consA (op2 addD (op2 addD (op2 mulD (op2 modD (callV intTD (consA (getL 2) (nilA))) (cst (.int P1))) (cst (.int 68247))) (op2 mulD (op2 mulD (cst (.int 5231)) (getL 1)) (getL 1))) (cst (.int 37))) (nilA))) (cst (.int P2)) [x, some (.int k), some (.int i), z]) K h := by
  have b0 : 0 ≤ i % P1 := Int.emod_nonneg _ (by omega)
  have b1 : i % P1 < P1 := Int.emod_lt_of_pos _ p1
  have m1 : mulD h (.int (i % P1)) (.int 68247) = some (.int (i % P1 * 68247)) := mulD_l (by omega)
  have m2 : mulD h (.int 5231) (.int k) = some (.int (5231 * k)) := mulD_l (by decide)
  have m3 : mulD h (.int (5231 * k)) (.int k) = some (.int (5231 * k * k)) := mulD_r (by omega)
  simp only [wp_op2, wp_callV, wp_consA, wp_nilA, getL_2, getL_1, getL_cons0, wp_okM', cst_eq, intTD_int, gives_some, modD_ok p1, m1, m2, m3, addD_int, modD_ok p2]
  exact kk _ (Int.emod_nonneg _ (by omega)) (Int.lt_trans (Int.emod_lt_of_pos _ p2) p2')
theorem sp_pot {ns : List Int} {k : Nat} (hk : k < 6) (q : Pot (h ++ [.lst []]) h.length 0 ∨ True) (q2 : ∀ o m : Int, 0 ≤ m → m < 2 ^ 62 → Q (.ref h.length) (h ++ [.lst [.int o, .int m, .int 0]])) : wp (m_law_pot [.arg (ns.map D.int), .int k]) Q h := by
  have sb := sizeBig
  have s3 : 3 ≤ PySem.sizeLine := by omega
  unfold m_law_pot b_law_pot
  rw [wp_body2, show List.replicate (4 - 2) (none : Option D) = [none, none] from rfl, wpS_seq, wpS_set]
  have cell : ∀ K : D → Hc → Prop, (∀ i : Int, K (.int i) h) → wp (ifV (toTB (op2 ltD (getL 1) (callV lenD (consA (getL 0) (nilA))))) (op2 ixD (getL 0) (getL 1)) (op2 addD (op2 mulD (cst (.int 135)) (getL 1)) (cst (.int 70))) [some (.arg (ns.map D.int)), some (.int k), none, none]) K h := fun K kk => by
    simp only [wp_ifV, wp_toTB, wp_op2, getL_1, getL_cons0, wp_okM', wp_callV, wp_consA, wp_nilA, lenD_arg, gives_some, ltD_int, asB_bl, cst_eq]
    cases e : decide ((k : Int) < ((ns.map D.int).length : Nat)) with
    | true =>
      rw [if_pos rfl]
      have lt : (k : Int) < ((ns.map D.int).length : Nat) := by simpa using e
      obtain ⟨x, ex, mx⟩ := atI_mem (xs := ns.map D.int) (r := k) (by omega) lt
      obtain ⟨i, _, rfl⟩ := List.mem_map.mp mx
      simp only [ixD_arg, ex, gives_some]
      exact kk i
    | false =>
      rw [if_neg Bool.false_ne_true]
      rw [mulD_l (by decide)]
      simp only [gives_some, addD_int]
      exact kk _
  refine cell _ fun i => ?_
  simp only [setL_2]
  rw [wpS_seq, wpS_set]
  refine own_pow fun o => ?_
  simp only [setL_3, wpS_ret, wp_lstN]
  rw [wp_consA]
  simp only [getL_3, getL_cons0, wp_okM']
  rw [wp_consA]
  refine mix_val (k := (k : Int)) (by omega) (by omega) (by omega) (by omega) (by omega) (by omega) fun m m0 m1 => ?_
  rw [wp_consA, cst_eq, wp_okM', wp_nilA]
  exact ⟨by simp; omega, q2 o m m0 m1⟩
end Mz

namespace Mz
variable {Q : D → Hc → Prop} {h : Hc} {d : D}
/-- a comprehension that changes things -/
theorem lcL_inv {g : D → L → Option L} {te : L → M D} {l0 : L} (I : List D → Hc → Prop) (turn : ∀ d rest h, I (d :: rest) h → ∃ l1, g d l0 = some l1 ∧ wp (te l1) (fun y h' => y = .bl true ∧ I rest h') h) : ∀ (ds : List D) (h : Hc), I ds h → ∃ h', lcL g yesT te l0 ds h = some (ds.map fun _ => .bl true, h') ∧ I [] h'
  | [], h, i => ⟨h, rfl, i⟩
  | d :: ds, h, i => by
    obtain ⟨l1, e1, w⟩ := turn d ds h i
    obtain ⟨y, h2, e2, rfl, i2⟩ := wp_elim w
    obtain ⟨h3, e3, i3⟩ := lcL_inv I turn ds h2 i2
    refine ⟨h3, ?_, i3⟩
    unfold lcL
    rw [e1]
    have : yesT l1 h = .ok true h := rfl
    simp only [this, e2, e3, List.map_cons]
    rfl
end Mz

/-! steps as records -/
namespace Mz
open PySem L2
structure Stp where
  ax : List Nat
  tag : List Nat
  ms : List (List Nat)
  tx : List (List Nat)
  hs : Option (List Nat × List Nat)
  nth : Nat
def tagS (x : List Nat) : Bool := tagB (.str x)
def soughtS (x : List Nat) : Bool := soughtB (.str x)
def Stp.hsD (s : Stp) : List D := match s.hs with
  | none => []
  | some (a, b) => [.str a, .str b]
def Stp.toD (s : Stp) : D := .tup [.str s.ax, .str s.tag, .tup (s.ms.map D.str), .tup (s.tx.map D.str), .tup s.hsD, .int s.nth]
structure Stp.Ok (s : Stp) : Prop where
  ax : axisB s.ax = true
  tag : tagS s.tag = true
  ms : marksB (s.ms.map D.str) = true
  tx : s.tx.length ≤ 1 ∧ ∀ x ∈ s.tx, soughtS x = true
  hs : ∀ a b, s.hs = some (a, b) → tagS a = true ∧ soughtS b = true
  nth : s.nth ≤ 3
theorem stepB_toD {s : Stp} (k : s.Ok) : stepB s.toD = true := by
  obtain ⟨ax, tag, mk, tx, hs, nth⟩ := s
  have h4 : textB (tx.map D.str) = true := by
    match tx, k.tx with
    | [], _ => rfl
    | [x], ⟨_, q⟩ => exact q x (by simp)
    | _ :: _ :: _, ⟨q, _⟩ => simp at q
  have h5 : hasB (Stp.hsD ⟨ax, tag, mk, tx, hs, nth⟩) = true := by
    match hs, k.hs with
    | none, _ => rfl
    | some (a, b), q =>
      obtain ⟨q1, q2⟩ := q a b rfl
      show (tagB (.str a) && soughtB (.str b)) = true
      rw [show tagB (.str a) = tagS a from rfl, show soughtB (.str b) = soughtS b from rfl, q1, q2]; rfl
  unfold Stp.toD
  rw [stepB_6]
  have h6 : intP (fun n => decide (0 ≤ n) && decide (n ≤ 3)) (.int (nth : Nat)) = true := by
    have := k.nth
    show (decide ((0 : Int) ≤ (nth : Nat)) && decide (((nth : Nat) : Int) ≤ 3)) = true
    rw [decide_eq_true (by omega), decide_eq_true (by simp at this ⊢; omega)]; rfl
  rw [show strP axisB (.str ax) = axisB ax from rfl, show tagB (.str tag) = tagS tag from rfl, show tupP marksB (.tup (mk.map D.str)) = marksB (mk.map D.str) from rfl, show tupP textB (.tup (tx.map D.str)) = textB (tx.map D.str) from rfl,
    show tupP hasB (.tup (Stp.hsD ⟨ax, tag, mk, tx, hs, nth⟩)) = hasB (Stp.hsD ⟨ax, tag, mk, tx, hs, nth⟩) from rfl, h6, h4, h5, k.ax, k.tag, k.ms]
  rfl
theorem strs_of : ∀ {ds : List D}, ds.all nameB = true → ∃ xs : List (List Nat), ds = xs.map D.str
  | [], _ => ⟨[], rfl⟩
  | d :: ds, h => by
    simp only [List.all_cons, Bool.and_eq_true] at h
    obtain ⟨x, rfl⟩ := nameB_str h.1
    obtain ⟨xs, rfl⟩ := strs_of h.2
    exact ⟨x :: xs, rfl⟩
theorem stp_of {d : D} (e : stepB d = true) : ∃ s : Stp, d = s.toD ∧ s.Ok := by
  cases d with
  | tup ds =>
    by_cases e6 : ds.length = 6
    · obtain ⟨a, b, c, t, s, n, rfl⟩ := len6 e6
      rw [stepB_6] at e
      simp only [Bool.and_eq_true] at e
      obtain ⟨⟨⟨⟨⟨e1, e2⟩, e3⟩, e4⟩, e5⟩, e7⟩ := e
      cases a with
      | str ax =>
       cases b with
       | str tag =>
        obtain ⟨mk, rfl⟩ := isTup_of (d := c) (by cases c <;> first | rfl | cases e3)
        obtain ⟨tx, rfl⟩ := isTup_of (d := t) (by cases t <;> first | rfl | cases e4)
        obtain ⟨hs, rfl⟩ := isTup_of (d := s) (by cases s <;> first | rfl | cases e5)
        cases n with
        | int n =>
          have e7 : (decide (0 ≤ n) && decide (n ≤ 3)) = true := e7
          simp only [Bool.and_eq_true, decide_eq_true_eq] at e7
          have e3' : marksB mk = true := e3
          obtain ⟨ms, rfl⟩ := strs_of (ds := mk) (by unfold marksB at e3'; simp only [Bool.and_eq_true] at e3'; exact e3'.1.2)
          obtain ⟨ts, rfl, l1, q1⟩ : ∃ ts : List (List Nat), tx = ts.map D.str ∧ ts.length ≤ 1 ∧ ∀ x ∈ ts, soughtS x = true := by
            match tx, e4 with
            | [], _ => exact ⟨[], rfl, by simp, by simp⟩
            | [x], e4 =>
              cases x with
              | str z => exact ⟨[z], rfl, by simp, by simpa using (show soughtS z = true from e4)⟩
              | _ => cases e4
            | _ :: _ :: _, e4 => cases e4
          obtain ⟨ho, rfl, q2⟩ : ∃ ho : Option (List Nat × List Nat), hs = Stp.hsD ⟨ax, tag, ms, ts, ho, n.toNat⟩ ∧ ∀ a b, ho = some (a, b) → tagS a = true ∧ soughtS b = true := by
            match hs, e5 with
            | [], _ => exact ⟨none, rfl, by simp⟩
            | [x], e5 => cases e5
            | [x, y], e5 =>
              have e5 : (tagB x && soughtB y) = true := e5
              rw [Bool.and_eq_true] at e5
              cases x with
              | str u =>
                cases y with
                | str z => exact ⟨some (u, z), rfl, fun a b h => by cases h; exact e5⟩
                | _ => cases e5.2
              | _ => cases e5.1
            | _ :: _ :: _ :: _, e5 => cases e5
          refine ⟨⟨ax, tag, ms, ts, ho, n.toNat⟩, ?_, ⟨e1, e2, e3', ⟨l1, q1⟩, q2, by show n.toNat ≤ 3; omega⟩⟩
          unfold Stp.toD
          rw [show ((n.toNat : Nat) : Int) = n by omega]
        | _ => cases e7
       | _ => cases e2
      | _ => cases e1
    · rw [stepB_len e6] at e; cases e
  | _ => cases e
end Mz

/-! the text of a step -/
namespace Mz
open PySem L2
variable {Q : D → Hc → Prop} {h : Hc} {d : D}
def tagA (x : List Nat) : List Nat := if x.isEmpty then [42] else x
def Stp.wds0 (s : Stp) : List (List Nat) := s.ax :: tagA s.tag :: (s.ms.map (fun x => 46 :: x) ++ s.tx.map (fun x => 61 :: x))
def Stp.hasW (s : Stp) : List (List Nat) := match s.hs with
  | none => []
  | some (a, b) => [126 :: (tagA a ++ 61 :: b)]
def Stp.nthW (s : Stp) : List (List Nat) := if s.nth = 0 then [] else [[35, 48 + s.nth]]
def Stp.wds (s : Stp) : List (List Nat) := s.wds0 ++ s.hasW ++ s.nthW
def Stp.txt (s : Stp) : List Nat := TL.joinL [32] s.wds
theorem nameS_len {x : List Nat} (e : nameS x = true) : x.length ≤ 8 ∧ ∀ c ∈ x, 97 ≤ c ∧ c ≤ 122 := by
  unfold nameS len18 smB at e
  simp only [Bool.and_eq_true, decide_eq_true_eq, List.all_eq_true] at e
  refine ⟨by omega, fun c hc => ?_⟩
  have := e.2 c hc
  simp only [SMc, List.mem_cons, List.not_mem_nil, or_false] at this
  omega
theorem cut_from {α : Type} {x : List α} (k : Nat) : cut x (some (k : Int)) none = x.drop k := by
  unfold cut
  rw [HT.sIx_nat, HT.sIx_none]
  by_cases hk : k ≤ x.length
  · rw [Nat.min_eq_left hk]
    exact List.take_of_length_le (by simp)
  · rw [Nat.min_eq_right (by omega), List.drop_of_length_le (Nat.le_refl _), List.drop_of_length_le (by omega)]; simp
theorem cut_to {α : Type} {x : List α} (k : Nat) : cut x none (some (k : Int)) = x.take k := by
  unfold cut
  rw [HT.sIx_nat, HT.sIx_none, List.drop_zero, Nat.sub_zero]
  by_cases hk : k ≤ x.length
  · rw [Nat.min_eq_left hk]
  · rw [Nat.min_eq_right (by omega), List.take_of_length_le (by omega), List.take_of_length_le (by omega)]
theorem cut_mid {α : Type} {x : List α} (i j : Nat) (hj : j ≤ x.length) (hi : i ≤ j) : cut x (some (i : Int)) (some (j : Int)) = (x.drop i).take (j - i) := by
  unfold cut
  rw [HT.sIx_nat, HT.sIx_nat, Nat.min_eq_left hj, Nat.min_eq_left (Nat.le_trans hi hj)]
theorem cut_1 {α : Type} {x : List α} : cut x (some 1) none = x.drop 1 := cut_from 1
theorem cut_2 {α : Type} {x : List α} : cut x (some 2) none = x.drop 2 := cut_from 2
theorem cut_t1 {α : Type} {x : List α} : cut x none (some 1) = x.take 1 := cut_to 1
theorem hole_form {x : List Nat} (e : holeS x = true) : ∃ y, x = 123 :: (y ++ [125]) ∧ nameS y = true := by
  unfold holeS at e
  simp only [Bool.and_eq_true, beq_iff_eq] at e
  obtain ⟨⟨e1, e2⟩, e3⟩ := e
  rw [cut_t1] at e1
  cases x with
  | nil => cases e1
  | cons a r =>
    have ea : a = 123 := by simpa using e1
    subst ea
    rcases List.eq_nil_or_concat r with rfl | ⟨y, b, rfl⟩
    · simp [cut, HT.sIx] at e2
    · have e2' : cut (123 :: (y.concat b)) (some (-1)) none = [b] := by
        simp [cut, HT.sIx]
        rw [show ((-1 : Int) + ((y.length : Int) + 1 + 1)).toNat = y.length + 1 by omega]
        simp
      rw [e2'] at e2
      cases e2
      have e3' : cut (123 :: (y.concat 125)) (some 1) (some (-1)) = y := by
        simp [cut, HT.sIx]
        rw [show ((-1 : Int) + ((y.length : Int) + 1 + 1)).toNat = y.length + 1 by omega]
        simp
      rw [e3'] at e3
      exact ⟨y, by simp, e3⟩
/-- the signs of a text that is sought: none that parts words -/
def plainC (c : Nat) : Prop := c ≠ 32 ∧ c ≠ 62 ∧ c ≠ 61 ∧ c ≠ 126 ∧ c ≠ 46 ∧ c ≠ 35 ∧ c ≠ 42 ∧ c < 128
theorem name_plain {x : List Nat} (e : nameS x = true) : ∀ c ∈ x, plainC c := fun c hc => by
  have := (nameS_len e).2 c hc
  unfold plainC
  omega
theorem sought_form {x : List Nat} (e : soughtS x = true) : 1 ≤ x.length ∧ x.length ≤ 10 ∧ ∀ c ∈ x, plainC c := by
  unfold soughtS soughtB at e
  simp only [Bool.or_eq_true] at e
  rcases e with (e | e) | e
  · have l : 1 ≤ x.length := by
      unfold nameS len18 at e
      simp only [Bool.and_eq_true, decide_eq_true_eq] at e
      omega
    exact ⟨l, by have := (nameS_len e).1; omega, name_plain e⟩
  · unfold fixedS at e
    simp only [Bool.and_eq_true] at e
    obtain ⟨⟨e1, e2⟩, e3⟩ := e
    unfold len18 at e1
    simp only [Bool.and_eq_true, decide_eq_true_eq] at e1
    refine ⟨by omega, by omega, fun c hc => ?_⟩
    cases x with
    | nil => cases hc
    | cons a r =>
      rw [cut_1] at e3
      rcases List.mem_cons.mp hc with rfl | hc
      · have e2 : decide (c ∈ GRc) = true := e2
        have := of_decide_eq_true e2
        simp only [GRc, List.mem_cons, List.not_mem_nil, or_false] at this
        unfold plainC
        omega
      · have := of_decide_eq_true (List.all_eq_true.mp e3 c (by simpa using hc))
        simp only [SMc, List.mem_cons, List.not_mem_nil, or_false] at this
        unfold plainC
        omega
  · obtain ⟨y, rfl, hy⟩ := hole_form e
    have := (nameS_len hy).1
    refine ⟨by simp, by simp; omega, fun c hc => ?_⟩
    simp only [List.mem_cons, List.mem_append, List.not_mem_nil, or_false] at hc
    rcases hc with rfl | hc | rfl
    · unfold plainC; omega
    · exact name_plain hy c hc
    · unfold plainC; omega
theorem axis_form {x : List Nat} (e : axisB x = true) : x.length ≤ 5 ∧ ∀ c ∈ x, plainC c := by
  unfold axisB at e
  simp only [Bool.or_eq_true, beq_iff_eq] at e
  rcases e with (rfl | rfl) | rfl <;> refine ⟨by simp, fun c hc => ?_⟩ <;> simp only [List.mem_cons, List.not_mem_nil, or_false] at hc <;> unfold plainC <;> omega
theorem tag_form {x : List Nat} (e : tagS x = true) : x.length ≤ 8 ∧ ∀ c ∈ x, plainC c := by
  unfold tagS tagB at e
  simp only [Bool.or_eq_true, beq_iff_eq] at e
  rcases e with rfl | e
  · exact ⟨by simp, by simp⟩
  · exact ⟨(nameS_len e).1, name_plain e⟩
theorem marks_form {xs : List (List Nat)} (e : marksB (xs.map D.str) = true) : xs.length ≤ 2 ∧ ∀ x ∈ xs, nameS x = true := by
  unfold marksB at e
  simp only [Bool.and_eq_true, decide_eq_true_eq, List.length_map, List.all_eq_true, List.mem_map] at e
  exact ⟨by omega, fun x hx => e.1.2 _ ⟨x, hx, rfl⟩⟩
end Mz

/-! step_text, _law_step_text, finder_text -/
namespace Mz
open PySem L2
variable {Q : D → Hc → Prop} {h : Hc} {d : D} {l : L}
@[simp] theorem wp_strMV {g : Hc → List Nat → D → Option D} {mo me : L → M D} : wp (strMV g mo me l) Q h = wp (mo l) (fun x h => gives (asS x) fun a => wp (me l) (fun y h => gives (g h a y) fun d => Q d h) h) h := by
  unfold strMV
  simp only [wp_bind, wp_rdo]
@[simp] theorem asS_str {x : List Nat} : asS (.str x) = some x := rfl
theorem wp_fsNil {acc : List Nat} : wp (fsGo [] acc l) Q h = Q (.str acc) h := rfl
theorem wp_fsCons {m : L → M D} {ms : List (L → M D)} {acc : List Nat} : wp (fsGo (m :: ms) acc l) Q h = wp (m l) (fun x h => gives ((asS x).bind fun y => if acc.length + y.length ≤ sizeLine then some y else none) fun y => wp (fsGo ms (acc ++ y) l) Q h) h := by
  show wp ((m l).bind _) Q h = _
  simp only [wp_bind, wp_rdo]
theorem wp_fsV {ms : List (L → M D)} : wp (fsV ms l) Q h = wp (fsGo ms [] l) Q h := rfl
@[simp] theorem wp_fmtV {m : L → M D} : wp (fmtV m l) Q h = wp (m l) (fun x h => gives (match x with
  | .str y => some (.str y)
  | .int i => if 0 ≤ i ∧ i ≤ 9 then some (.str [48 + i.toNat]) else none
  | _ => none) fun d => Q d h) h := by
  unfold fmtV
  simp only [wp_bind, wp_rdo]
  all_goals rfl
theorem sizeK {n : Nat} (e : n ≤ 1000000) : n ≤ sizeLine := Nat.le_trans e (by decide)
theorem tagA_len (x : List Nat) : (tagA x).length ≤ x.length + 1 := by unfold tagA; split <;> simp
def preD (c : Nat) (d : D) : D := match d with
  | .str x => .str (c :: x)
  | d => d
theorem pre_map (c : Nat) (xs : List (List Nat)) : (xs.map D.str).map (preD c) = (xs.map (fun x => c :: x)).map D.str := by
  simp [preD]
theorem lc_pre {c i : Nat} {xs : List (List Nat)} {mi : L → M (List D)} {vs : List Nat} (hx : ∀ x ∈ xs, x.length ≤ 100) (e : mi l h = .ok (xs.map D.str) h) (hi : i < l.length) (hv : vs = [i]) :
    wp (lcV mi (nameG i) yesT (fsV [cst (.str [c]), fmtV (getL i)]) vs l) Q h = Q (.lst ((xs.map (fun x => c :: x)).map D.str)) h := by
  subst hv
  rw [lc_items (preD c) e (fun d hd => ?_), pre_map]
  obtain ⟨x, hx', rfl⟩ := List.mem_map.mp hd
  apply ok_of_wp
  have hz : [c].length + x.length ≤ sizeLine := sizeK (by have := hx x hx'; simp; omega)
  have hg : ∀ Q : D → Hc → Prop, wp (getL i ((wipeL l [i]).set i (some (.str x)))) Q h = Q (.str x) h := fun Q => by
    rw [wp_getL]
    have : ((wipeL l [i]).set i (some (D.str x)))[i]? = some (some (.str x)) := List.getElem?_set_self (by unfold wipeL; simp; exact hi)
    rw [this]
    simp
  have h1 : (1 : Nat) ≤ sizeLine := sizeK (by decide)
  simp only [wp_fsV, wp_fsCons, wp_fsNil, cst_eq, wp_okM', asS_str, Option.bind_some, gives_some, List.length_nil, List.length_cons, Nat.zero_add, List.nil_append, wp_fmtV, hg, h1, if_true]
  simp only [List.length_cons, List.length_nil, Nat.zero_add] at hz
  rw [if_pos hz]
  simp [preD]
theorem txs_map (zs : List (List Nat)) : txs (zs.map D.str) = some zs := txs_strs zs
theorem joinD_ok {zs : List (List Nat)} {a : List Nat} {y : D} (e : seqD h y = some (zs.map D.str)) (z : (zs.map (·.length)).sum + zs.length * a.length ≤ 16777216) : joinD h a y = some (.str (TL.joinL a zs)) := by
  unfold joinD
  rw [e]
  simp only [Option.bind_some, txs_map, if_pos z]
theorem okD_strs {xs : List (List Nat)} : okD (.tup (xs.map D.str)) = true := by
  unfold okD
  have h1 : dat (.tup (xs.map D.str)) = true := by
    show dats (xs.map D.str) = true
    induction xs with
    | nil => rfl
    | cons x r ih => exact (by show (dat (.str x) && dats (r.map D.str)) = true; rw [ih]; rfl)
  have h2 : dep (.tup (xs.map D.str)) ≤ 1 := by
    show deps (xs.map D.str) + 1 ≤ 1
    have : deps (xs.map D.str) = 0 := by
      induction xs with
      | nil => rfl
      | cons x r ih =>
        show max (dep (.str x)) (deps (r.map D.str)) = 0
        rw [ih]
        · rfl
        · exact (by show dats (r.map D.str) = true; have h1 : (dat (.str x) && dats (r.map D.str)) = true := h1; rw [Bool.and_eq_true] at h1; exact h1.2)
    omega
  rw [h1, decide_eq_true (by omega)]; rfl
theorem wds_sum {s : Stp} (k : s.Ok) : ((s.wds0 ++ s.hasW).map (·.length)).sum + (s.wds0 ++ s.hasW).length ≤ 200 ∧ (s.wds.map (·.length)).sum + s.wds.length ≤ 210 := by
  obtain ⟨ax, tag, ms, tx, hs, nth⟩ := s
  have a1 := (axis_form k.ax).1
  have a2 := (tag_form k.tag).1
  have a2' := tagA_len tag
  obtain ⟨m1, m2⟩ := marks_form k.ms
  have a3 : ((ms.map (fun x => 46 :: x)).map (·.length)).sum + (ms.map (fun x => 46 :: x)).length ≤ 20 := by
    match ms, m1, m2 with
    | [], _, _ => simp
    | [x], _, m2 =>
      have := (nameS_len (m2 x (by simp))).1
      simp; omega
    | [x, y], _, m2 =>
      have := (nameS_len (m2 x (by simp))).1
      have := (nameS_len (m2 y (by simp))).1
      simp; omega
    | _ :: _ :: _ :: _, m1, _ => simp at m1
  obtain ⟨t1, t2⟩ := k.tx
  have a4 : ((tx.map (fun x => 61 :: x)).map (·.length)).sum + (tx.map (fun x => 61 :: x)).length ≤ 12 := by
    match tx, t1, t2 with
    | [], _, _ => simp
    | [x], _, t2 =>
      have := (sought_form (t2 x (by simp))).2.1
      simp; omega
    | _ :: _ :: _, t1, _ => simp at t1
  have a5 : ((Stp.hasW ⟨ax, tag, ms, tx, hs, nth⟩).map (·.length)).sum + (Stp.hasW ⟨ax, tag, ms, tx, hs, nth⟩).length ≤ 24 := by
    match hs, k.hs with
    | none, _ => simp [Stp.hasW]
    | some (a, b), q =>
      obtain ⟨q1, q2⟩ := q a b rfl
      have := (tag_form q1).1
      have := tagA_len a
      have := (sought_form q2).2.1
      simp [Stp.hasW]; omega
  have a6 : ((Stp.nthW ⟨ax, tag, ms, tx, hs, nth⟩).map (·.length)).sum + (Stp.nthW ⟨ax, tag, ms, tx, hs, nth⟩).length ≤ 3 := by
    unfold Stp.nthW
    split <;> simp
  have a1 : ax.length ≤ 5 := a1
  have a2 : tag.length ≤ 8 := a2
  constructor
  · unfold Stp.wds0
    simp only [List.map_append, List.map_cons, List.sum_append, List.sum_cons, List.length_append, List.length_cons, List.length_map] at a3 a4 a5 ⊢
    omega
  · unfold Stp.wds Stp.wds0
    simp only [List.map_append, List.map_cons, List.sum_append, List.sum_cons, List.length_append, List.length_cons, List.length_map] at a3 a4 a5 a6 ⊢
    omega
theorem w_or {m : L → M D} {x : List Nat} (e : m l = R.ok (.str x)) : wp (orV m (cst c_ANY) l) Q h = Q (.str (tagA x)) h := by
  rw [wp_orV, e, wp_okM']
  show gives (some (!x.isEmpty)) _ = _
  simp only [gives_some, cst_eq, wp_okM']
  unfold tagA
  cases x <;> rfl
theorem w_step_text {s : Stp} (k : s.Ok) (q : ∀ r, Q (.str s.txt) (h ++ r)) : wp (m_step_text [s.toD]) Q h := by
  have hb := wds_sum k
  have hA : ∀ x : List Nat, (if (!x.isEmpty) = true then (D.str x) else D.str [42]) = .str (tagA x) := fun x => by
    unfold tagA
    cases x <;> rfl
  unfold m_step_text b_step_text Stp.toD
  rw [wp_body1, show List.replicate (10 - 1) (none : Option D) = [none, none, none, none, none, none, none, none, none] from rfl, wpS_seq, wpS_asg]
  obtain ⟨ax, tag, ms, tx, hs, nth⟩ := s
  dsimp only
  simp only [getL_cons0, wp_okM']
  show wpS _ _ _ [some _, none, some (.str ax), some (.str tag), some (.tup (ms.map D.str)), some (.tup (tx.map D.str)), some (.tup (Stp.hsD ⟨ax, tag, ms, tx, hs, nth⟩)), some (.int (nth : Nat)), none, none] h
  have lm : ∀ x ∈ ms, x.length ≤ 100 := fun x hx => by have := (nameS_len ((marks_form k.ms).2 x hx)).1; omega
  have lt : ∀ x ∈ tx, x.length ≤ 100 := fun x hx => by have := (sought_form (k.tx.2 x hx)).2.1; omega
  have lw : (Stp.wds0 ⟨ax, tag, ms, tx, hs, nth⟩).length ≤ 200 := by
    have := hb.1
    simp only [List.length_append] at this
    omega
  rw [wpS_seq, wpS_set, wp_lstN]
  simp only [wp_consA, getL_2, getL_cons0, wp_okM', wp_starA]
  rw [w_or (x := tag) rfl, lc_pre (xs := ms) lm rfl (by simp) rfl]
  show gives (some ((ms.map (fun x => 46 :: x)).map D.str)) _
  simp only [gives_some]
  rw [lc_pre (xs := tx) lt rfl (by simp) rfl]
  show gives (some ((tx.map (fun x => 61 :: x)).map D.str)) _
  simp only [gives_some, wp_nilA, List.append_nil]
  have ew : D.str ax :: D.str (tagA tag) :: ((ms.map (fun x => 46 :: x)).map D.str ++ (tx.map (fun x => 61 :: x)).map D.str) = (Stp.wds0 ⟨ax, tag, ms, tx, hs, nth⟩).map D.str := by simp [Stp.wds0]
  rw [ew]
  refine ⟨sizeK (by rw [List.length_map]; omega), ?_⟩
  have main : ∀ (x0 : Option D) (ws : List (List Nat)) (h' : Hc), objL h' h.length = some (ws.map D.str) → (∀ r, Q (.str (TL.joinL [32] (ws ++ Stp.nthW ⟨ax, tag, ms, tx, hs, nth⟩))) (h' ++ r)) → (ws.map (·.length)).sum + ws.length ≤ 205 →
      wpS (retS (strMV joinD (cst (.str [32])) (ifV (toTB (op2 gtD (getL 7) (cst (.int 0)))) (lstV (starA (getL 1) (consA (fsV [cst (.str [35]), fmtV (getL 7)]) (nilA)))) (getL 1)))) (fun _ h => Q .non h) Q
        [x0, some (.ref h.length), some (.str ax), some (.str tag), some (.tup (ms.map D.str)), some (.tup (tx.map D.str)), some (.tup (Stp.hsD ⟨ax, tag, ms, tx, hs, nth⟩)), some (.int (nth : Nat)), none, none] h' := by
    intro x0 ws h' eo qq hz
    rw [wpS_ret, wp_strMV]
    simp only [cst_eq, wp_okM', asS_str, gives_some, wp_ifV, wp_toTB, wp_op2, getL_7, getL_cons0, gtD_int, asB_bl]
    by_cases z : nth = 0
    · subst z
      rw [decide_eq_false (by simp), if_neg Bool.false_ne_true]
      simp only [getL_1, getL_cons0, wp_okM']
      rw [joinD_ok (zs := ws) (by show objL h' h.length = _; exact eo) (by simp; omega)]
      have := qq []
      simpa [Stp.nthW] using this
    · have hn : nth ≤ 3 := k.nth
      rw [decide_eq_true (by simp; omega), if_pos rfl, wp_lstV]
      simp only [wp_starA, wp_consA, wp_nilA, getL_1, getL_cons0, wp_okM']
      show gives (objL h' h.length) _
      rw [eo, gives_some, wp_fsV, wp_fsCons]
      have h1 : (1 : Nat) ≤ sizeLine := sizeK (by decide)
      have h2 : (1 : Nat) + 1 ≤ sizeLine := sizeK (by decide)
      have hf : (0 : Int) ≤ (nth : Nat) ∧ ((nth : Nat) : Int) ≤ 9 := by omega
      simp only [cst_eq, wp_okM', asS_str, Option.bind_some, gives_some, List.length_nil, List.length_cons, Nat.zero_add, List.nil_append, h1, if_true, wp_fsCons, wp_fmtV, getL_7, getL_cons0, hf, and_self, h2, wp_fsNil, List.cons_append]
      have en : ws.map D.str ++ [D.str [35, 48 + ((nth : Nat) : Int).toNat]] = (ws ++ Stp.nthW ⟨ax, tag, ms, tx, hs, nth⟩).map D.str := by
        simp [Stp.nthW, z]
      rw [en]
      refine ⟨sizeK (by simp [Stp.nthW, z]; omega), ?_⟩
      rw [joinD_ok (zs := ws ++ Stp.nthW ⟨ax, tag, ms, tx, hs, nth⟩) rfl (by simp [Stp.nthW, z]; omega)]
      simpa using qq []
  rw [wpS_seq, wpS_if]
  simp only [setL_1]
  match hs, hb, main, k.hs with
  | none, hb, main, _ =>
    have e0 : ∀ (x0 : Option D) (h' : Hc) (K : Bool → Hc → Prop), wp (toTB (op2 neD (getL 6) (tupV nilA)) [x0, some (.ref h.length), some (.str ax), some (.str tag), some (.tup (ms.map D.str)), some (.tup (tx.map D.str)), some (.tup (Stp.hsD ⟨ax, tag, ms, tx, none, nth⟩)), some (.int (nth : Nat)), none, none]) K h' = K false h' := fun x0 h' K => by
      simp only [wp_toTB, wp_op2, getL_6, getL_cons0, wp_okM', wp_tupV, wp_nilA, List.length_nil, Nat.zero_le, true_and]
      rfl
    rw [e0, if_neg Bool.false_ne_true, wpS_next]
    refine main _ _ _ objL_new (fun r => ?_) (by have := hb.1; simpa [Stp.hasW] using Nat.le_trans this (by omega))
    have := q ([.lst ((Stp.wds0 ⟨ax, tag, ms, tx, none, nth⟩).map D.str)] ++ r)
    simpa [Stp.txt, Stp.wds, Stp.hasW] using this
  | some (a, b), hb, main, kh =>
    obtain ⟨k1, k2⟩ := kh a b rfl
    have la := (tag_form k1).1
    have la' := tagA_len a
    have lb := (sought_form k2).2.1
    have e0 : ∀ (x0 : Option D) (h' : Hc) (K : Bool → Hc → Prop), wp (toTB (op2 neD (getL 6) (tupV nilA)) [x0, some (.ref h.length), some (.str ax), some (.str tag), some (.tup (ms.map D.str)), some (.tup (tx.map D.str)), some (.tup (Stp.hsD ⟨ax, tag, ms, tx, some (a, b), nth⟩)), some (.int (nth : Nat)), none, none]) K h' = K true h' := fun x0 h' K => by
      simp only [wp_toTB, wp_op2, getL_6, getL_cons0, wp_okM', wp_tupV, wp_nilA, List.length_nil, Nat.zero_le, true_and]
      rfl
    rw [e0, if_pos rfl, wpS_expr, wp_appV, getL_1, getL_cons0, wp_okM', refL_ref, objL_new]
    simp only [Option.map_some, gives_some, wp_consA, wp_nilA]
    have h1 : (1 : Nat) ≤ sizeLine := sizeK (by decide)
    rw [wp_fsV, wp_fsCons]
    simp only [cst_eq, wp_okM', asS_str, Option.bind_some, gives_some, List.length_nil, List.length_cons, Nat.zero_add, List.nil_append, h1, if_true, wp_fsCons, wp_fmtV]
    rw [w_or (x := a) rfl]
    have z1 : 1 + (tagA a).length ≤ sizeLine := sizeK (by omega)
    have z2 : ([126] ++ tagA a).length + 1 ≤ sizeLine := sizeK (by simp; omega)
    have z3 : ([126] ++ tagA a ++ [61]).length + b.length ≤ sizeLine := sizeK (by simp; omega)
    have eb : ∀ (x0 : Option D) (h' : Hc) (K : D → Hc → Prop), wp (op2 ixD (getL 6) (cst (.int 1)) [x0, some (.ref h.length), some (.str ax), some (.str tag), some (.tup (ms.map D.str)), some (.tup (tx.map D.str)), some (.tup (Stp.hsD ⟨ax, tag, ms, tx, some (a, b), nth⟩)), some (.int (nth : Nat)), none, none]) K h' = K (.str b) h' := fun x0 h' K => rfl
    simp only [gives_some, asS_str, Option.bind_some, z1, if_true, wp_fsCons, cst_eq, wp_okM', List.length_cons, List.length_nil, Nat.zero_add, z2, wp_fmtV, eb, z3, wp_fsNil, wp_one]
    rw [wp_appH objL_new (Nat.lt_of_lt_of_le (by rw [List.length_map]; omega : _ < 1000) (sizeK (by decide)))]
    rw [set_new]
    have ea : (Stp.wds0 ⟨ax, tag, ms, tx, some (a, b), nth⟩).map D.str ++ [D.str ([126] ++ tagA a ++ [61] ++ b)] = (Stp.wds0 ⟨ax, tag, ms, tx, some (a, b), nth⟩ ++ Stp.hasW ⟨ax, tag, ms, tx, some (a, b), nth⟩).map D.str := by
      simp [Stp.hasW]
    rw [ea]
    refine main _ _ _ objL_new (fun r => ?_) (Nat.le_trans hb.1 (by omega))
    have := q ([.lst ((Stp.wds0 ⟨ax, tag, ms, tx, some (a, b), nth⟩ ++ Stp.hasW ⟨ax, tag, ms, tx, some (a, b), nth⟩).map D.str)] ++ r)
    simpa [Stp.txt, Stp.wds] using this
end Mz

namespace Mz
open PySem L2
variable {Q : D → Hc → Prop} {h : Hc} {d : D} {l : L}
def glue (ws : List (List Nat)) : List Nat := ws.flatMap fun x => 32 :: x
theorem joinL_glue (w : List Nat) : ∀ ws : List (List Nat), TL.joinL [32] (w :: ws) = w ++ glue ws
  | [] => by simp [TL.joinL, glue]
  | x :: ws => by
    show w ++ ([32] ++ TL.joinL [32] (x :: ws)) = _
    rw [joinL_glue x ws]
    simp [glue]
theorem glue_append (a b : List (List Nat)) : glue (a ++ b) = glue a ++ glue b := by simp [glue]
theorem txt_eq (s : Stp) : s.txt = s.ax ++ 32 :: tagA s.tag ++ glue (s.ms.map fun x => 46 :: x) ++ glue (s.tx.map fun x => 61 :: x) ++ glue s.hasW ++ glue s.nthW := by
  unfold Stp.txt Stp.wds Stp.wds0
  rw [List.cons_append, List.cons_append, joinL_glue]
  simp [glue]
theorem addD_str {x y : List Nat} (z : x.length + y.length ≤ sizeLine) : addD h (.str x) (.str y) = some (.str (x ++ y)) := by exact if_pos z
theorem glue_len {n : Nat} : ∀ {ws : List (List Nat)}, (∀ x ∈ ws, x.length ≤ n) → (glue ws).length ≤ ws.length * (n + 1)
  | [], _ => by simp [glue]
  | x :: ws, k => by
    have i := glue_len (ws := ws) fun y hy => k y (List.mem_cons_of_mem _ hy)
    have := k x (by simp)
    have e : (glue (x :: ws)).length = x.length + 1 + (glue ws).length := by simp [glue]; omega
    rw [e, List.length_cons, Nat.succ_mul]
    omega
def InvM (x0 : Option D) (b : List Nat) (n : Nat) (r3 r4 r5 r6 r7 r8 : Option D) (ms : List (List Nat)) (h0 : Hc) (rest : List D) (l : L) (h : Hc) : Prop :=
  ∃ done todo x2, ms = done ++ todo ∧ rest = todo.map D.str ∧ h = h0 ∧ l = [x0, some (.str (b ++ glue (done.map fun x => 46 :: x))), x2, r3, r4, r5, r6, r7, r8]
theorem w_ifTag {m : L → M D} {x : List Nat} (e : m l = R.ok (.str x)) : wp (ifV (toTB (op2 eqD m (cst (.str [])))) (cst (.str [42])) m l) Q h = Q (.str (tagA x)) h := by
  simp only [wp_ifV, wp_toTB, wp_op2, e, wp_okM', cst_eq]
  show gives (some (D.bl (x == []))) _ = _
  simp only [gives_some, asB_bl]
  unfold tagA
  cases x <;> rfl
theorem w_law_step_text {s : Stp} (k : s.Ok) (q : Q (.str s.txt) h) : wp (m_law_step_text [s.toD]) Q h := by
  rw [txt_eq] at q
  obtain ⟨ax, tag, ms, tx, hs, nth⟩ := s
  have lx := (axis_form k.ax).1
  have lg := (tag_form k.tag).1
  have lg' := tagA_len tag
  obtain ⟨m1, m2⟩ := marks_form k.ms
  have lm : ∀ x ∈ ms, x.length ≤ 8 := fun x hx => (nameS_len (m2 x hx)).1
  have lt : ∀ x ∈ tx, x.length ≤ 10 := fun x hx => (sought_form (k.tx.2 x hx)).2.1
  dsimp only at lx lg m1
  unfold m_law_step_text b_law_step_text Stp.toD
  rw [wp_body1, show List.replicate (9 - 1) (none : Option D) = [none, none, none, none, none, none, none, none] from rfl, wpS_seq, wpS_asg]
  dsimp only
  simp only [getL_cons0, wp_okM']
  generalize hx0 : some (D.tup [D.str ax, D.str tag, D.tup (ms.map D.str), D.tup (tx.map D.str), D.tup (Stp.hsD ⟨ax, tag, ms, tx, hs, nth⟩), D.int (nth : Nat)]) = x0
  show wpS _ _ _ [x0, none, none, some (.str ax), some (.str tag), some (.tup (ms.map D.str)), some (.tup (tx.map D.str)), some (.tup (Stp.hsD ⟨ax, tag, ms, tx, hs, nth⟩)), some (.int (nth : Nat))] h
  have z1 : ax.length + [32].length ≤ sizeLine := sizeK (by simp; omega)
  have z2 : (ax ++ [32]).length + (tagA tag).length ≤ sizeLine := sizeK (by simp; omega)
  rw [wpS_seq, wpS_set]
  simp only [wp_op2, getL_3, getL_cons0, wp_okM', cst_eq, addD_str z1, gives_some]
  rw [w_ifTag (x := tag) rfl]
  simp only [addD_str z2, gives_some, setL_1]
  generalize hB : ax ++ [32] ++ tagA tag = B
  have lB : B.length ≤ 30 := by rw [← hB]; simp; omega
  have eB : ax ++ 32 :: tagA tag = B := by rw [← hB]; simp
  dsimp only at q
  rw [eB] at q
  rw [wpS_seq]
  refine wpS_for (InvM x0 B 0 (some (.str ax)) (some (.str tag)) (some (.tup (ms.map D.str))) (some (.tup (tx.map D.str))) (some (.tup (Stp.hsD ⟨ax, tag, ms, tx, hs, nth⟩))) (some (.int (nth : Nat))) ms h) (ds := ms.map D.str) (h' := h) rfl ⟨[], ms, none, rfl, rfl, rfl, by simp [glue]⟩ ?_ ?_
  · rintro d rest l h2 ⟨done, todo, x2, e1, e2, rfl, rfl⟩
    cases todo with
    | nil => cases e2
    | cons x todo =>
      simp only [List.map_cons, List.cons.injEq] at e2
      obtain ⟨rfl, rfl⟩ := e2
      refine ⟨_, rfl, ?_⟩
      have mx : x ∈ ms := by rw [e1]; simp
      have ld : done.length ≤ 2 := by rw [e1] at m1; simp at m1; omega
      have lgd : (glue (done.map fun x => 46 :: x)).length ≤ 100 := by
        have := glue_len (n := 9) (ws := done.map fun x => 46 :: x) (fun y hy => by
          obtain ⟨w, hw, rfl⟩ := List.mem_map.mp hy
          have := lm w (by rw [e1]; simp [hw])
          simp; omega)
        simp only [List.length_map] at this
        omega
      have lx2 := lm x mx
      have z3 : (B ++ glue (done.map fun x => 46 :: x)).length + [32, 46].length ≤ sizeLine := sizeK (by simp; omega)
      have z4 : (B ++ glue (done.map fun x => 46 :: x) ++ [32, 46]).length + x.length ≤ sizeLine := sizeK (by simp; omega)
      simp only [setL_2]
      rw [wpS_set]
      simp only [wp_op2, getL_1, getL_2, getL_cons0, wp_okM', cst_eq, addD_str z3, addD_str z4, gives_some, setL_1]
      exact ⟨done ++ [x], todo, some (.str x), by simp [e1], rfl, rfl, by simp [glue]⟩
  · rintro l h2 ⟨done, todo, x2, e1, e2, rfl, rfl⟩
    have et : todo = [] := by
      cases todo with
      | nil => rfl
      | cons x r => cases e2
    subst et
    rw [List.append_nil] at e1
    subst e1
    generalize hB2 : B ++ glue (ms.map fun x => 46 :: x) = B2 at q
    have lB2 : B2.length ≤ 200 := by
      have := glue_len (n := 9) (ws := ms.map fun x => 46 :: x) (fun y hy => by
        obtain ⟨w, hw, rfl⟩ := List.mem_map.mp hy
        have := lm w hw
        simp; omega)
      rw [← hB2]
      simp only [List.length_map, List.length_append] at this ⊢
      omega
    rw [wpS_seq, wpS_if]
    have key3 : ∀ (B3 : List Nat), B3.length ≤ 400 → (Q (.str (B3 ++ glue (Stp.nthW ⟨ax, tag, ms, tx, hs, nth⟩))) h2) → ∀ x6 x7,
        wpS (retS (op2 addD (getL 1) (ifV (toTB (op2 gtD (getL 8) (cst (.int 0)))) (op2 addD (cst (.str [32, 35])) (callV strD (consA (getL 8) (nilA)))) (cst (.str []))))) (fun _ h => Q .non h) Q [x0, some (.str B3), x2, some (.str ax), some (.str tag), some (.tup (ms.map D.str)), x6, x7, some (.int (nth : Nat))] h2 := by
      intro B3 l3 q3 x6 x7
      rw [wpS_ret]
      simp only [wp_op2, getL_1, getL_8, getL_cons0, wp_okM', wp_ifV, wp_toTB, cst_eq, gtD_int, gives_some, asB_bl]
      by_cases z : nth = 0
      · subst z
        rw [decide_eq_false (by simp), if_neg Bool.false_ne_true]
        have z9 : B3.length + ([] : List Nat).length ≤ sizeLine := sizeK (by simp; omega)
        simp only [addD_str z9, gives_some]
        simpa [Stp.nthW, glue] using q3
      · have hn : nth ≤ 3 := k.nth
        rw [decide_eq_true (by simp; omega), if_pos rfl]
        have hf : (0 : Int) ≤ (nth : Nat) ∧ ((nth : Nat) : Int) ≤ 9 := by omega
        have es : strD h2 [D.int (nth : Nat)] = some (.str [48 + ((nth : Nat) : Int).toNat]) := by exact if_pos hf
        have z8 : [32, 35].length + [48 + ((nth : Nat) : Int).toNat].length ≤ sizeLine := sizeK (by simp)
        have z9 : B3.length + ([32, 35] ++ [48 + ((nth : Nat) : Int).toNat]).length ≤ sizeLine := sizeK (by simp; omega)
        simp only [wp_callV, wp_consA, wp_nilA, getL_8, getL_cons0, wp_okM', es, gives_some, addD_str z8, addD_str z9]
        simpa [Stp.nthW, z, glue] using q3
    have key2 : ∀ (B3 : List Nat), B3.length ≤ 300 → (Q (.str (B3 ++ glue (Stp.hasW ⟨ax, tag, ms, tx, hs, nth⟩) ++ glue (Stp.nthW ⟨ax, tag, ms, tx, hs, nth⟩))) h2) → ∀ x6,
        wpS (seqS (ifS (toTB (op2 neD (getL 7) (tupV (nilA)))) (setS 1 (op2 addD (op2 addD (op2 addD (op2 addD (getL 1) (cst (.str [32, 126]))) (ifV (toTB (op2 eqD (op2 ixD (getL 7) (cst (.int 0))) (cst (.str [])))) (cst (.str [42])) (op2 ixD (getL 7) (cst (.int 0))))) (cst (.str [61]))) (op2 ixD (getL 7) (cst (.int 1))))) (nextS))
          (retS (op2 addD (getL 1) (ifV (toTB (op2 gtD (getL 8) (cst (.int 0)))) (op2 addD (cst (.str [32, 35])) (callV strD (consA (getL 8) (nilA)))) (cst (.str [])))))) (fun _ h => Q .non h) Q [x0, some (.str B3), x2, some (.str ax), some (.str tag), some (.tup (ms.map D.str)), x6, some (.tup (Stp.hsD ⟨ax, tag, ms, tx, hs, nth⟩)), some (.int (nth : Nat))] h2 := by
      intro B3 l3 q3 x6
      rw [wpS_seq, wpS_if]
      match hs, k.hs, key3, q3 with
      | none, _, key3, q3 =>
        simp only [wp_toTB, wp_op2, getL_7, getL_cons0, wp_okM', wp_tupV, wp_nilA, List.length_nil, Nat.zero_le, true_and]
        rw [show neD h2 (D.tup (Stp.hsD ⟨ax, tag, ms, tx, none, nth⟩)) (D.tup []) = some (.bl false) from rfl]
        simp only [gives_some, asB_bl]
        rw [if_neg Bool.false_ne_true, wpS_next]
        exact key3 B3 (by omega) (by simpa [Stp.hasW, glue] using q3) _ _
      | some (a, b), kh, key3, q3 =>
        obtain ⟨k1, k2⟩ := kh a b rfl
        have la := (tag_form k1).1
        have la' := tagA_len a
        have lb := (sought_form k2).2.1
        simp only [wp_toTB, wp_op2, getL_7, getL_cons0, wp_okM', wp_tupV, wp_nilA, List.length_nil, Nat.zero_le, true_and]
        rw [show neD h2 (D.tup (Stp.hsD ⟨ax, tag, ms, tx, some (a, b), nth⟩)) (D.tup []) = some (.bl true) from rfl]
        simp only [gives_some, asB_bl]
        rw [if_pos trivial, wpS_set]
        have y1 : B3.length + [32, 126].length ≤ sizeLine := sizeK (by simp; omega)
        have y2 : (B3 ++ [32, 126]).length + (tagA a).length ≤ sizeLine := sizeK (by simp; omega)
        have y3 : (B3 ++ [32, 126] ++ tagA a).length + [61].length ≤ sizeLine := sizeK (by simp; omega)
        have y4 : (B3 ++ [32, 126] ++ tagA a ++ [61]).length + b.length ≤ sizeLine := sizeK (by simp; omega)
        simp only [wp_op2, getL_1, getL_cons0, wp_okM', cst_eq, addD_str y1, gives_some]
        rw [w_ifTag (x := a) rfl]
        simp only [gives_some, addD_str y2, addD_str y3, getL_7, getL_cons0, wp_okM']
        show gives (some (D.str b)) _
        simp only [gives_some, addD_str y4, setL_1]
        exact key3 _ (by simp; omega) (by simpa [Stp.hasW, glue] using q3) _ _
    match tx, k.tx, lt, q, key2 with
    | [], _, _, q, key2 =>
      simp only [wp_toTB, wp_op2, getL_6, getL_cons0, wp_okM', wp_tupV, wp_nilA, List.length_nil, Nat.zero_le, true_and]
      rw [show neD h2 (D.tup (([] : List (List Nat)).map D.str)) (D.tup []) = some (.bl false) from rfl]
      simp only [gives_some, asB_bl]
      rw [if_neg Bool.false_ne_true, wpS_next]
      exact key2 B2 (by omega) (by simpa [glue] using q) _
    | [x], _, lt, q, key2 =>
      have l6 := lt x (by simp)
      simp only [wp_toTB, wp_op2, getL_6, getL_cons0, wp_okM', wp_tupV, wp_nilA, List.length_nil, Nat.zero_le, true_and]
      rw [show neD h2 (D.tup ([x].map D.str)) (D.tup []) = some (.bl true) from rfl]
      simp only [gives_some, asB_bl]
      rw [if_pos trivial, wpS_set]
      have y1 : B2.length + [32, 61].length ≤ sizeLine := sizeK (by simp; omega)
      have y2 : (B2 ++ [32, 61]).length + x.length ≤ sizeLine := sizeK (by simp; omega)
      simp only [wp_op2, getL_1, getL_6, getL_cons0, wp_okM', cst_eq, addD_str y1, gives_some]
      show gives (some (D.str x)) _
      simp only [gives_some, addD_str y2, setL_1]
      exact key2 _ (by simp; omega) (by simpa [glue] using q) _
    | _ :: _ :: _, kt, _, _, _ => exact absurd kt.1 (by simp)
end Mz

namespace Mz
open PySem L2
variable {Q : D → Hc → Prop} {h : Hc} {d : D} {l : L}
/-- a comprehension whose parts lay new objects -/
theorem lcL_app {i : Nat} {te : L → M D} {l0 : L} (f : D → D) : ∀ (ds : List D) (h : Hc), (∀ x ∈ ds, ∀ (h' : Hc) (Q : D → Hc → Prop), (∀ r, Q (f x) (h' ++ r)) → wp (te (l0.set i (some x))) Q h') → ∃ r, lcL (nameG i) yesT te l0 ds h = some (ds.map f, h ++ r)
  | [], h, _ => ⟨[], by simp [lcL]⟩
  | d :: ds, h, k => by
    obtain ⟨y, h2, e2, rfl, r, rfl⟩ := wp_elim (k d (by simp) h (fun y h2 => y = f d ∧ ∃ r, h2 = h ++ r) fun r => ⟨rfl, r, rfl⟩)
    obtain ⟨r2, e3⟩ := lcL_app f ds (h ++ r) fun x hx => k x (List.mem_cons_of_mem _ hx)
    refine ⟨r ++ r2, ?_⟩
    unfold lcL
    rw [nameG_eq]
    have : yesT (l0.set i (some d)) h = .ok true h := rfl
    simp only [this, e2, e3, List.map_cons]
    simp
theorem lc_app {mi : L → M (List D)} {vs : List Nat} {i : Nat} {te : L → M D} {xs : List D} (f : D → D) (e : mi l h = .ok xs h)
    (k : ∀ x ∈ xs, ∀ (h' : Hc) (Q : D → Hc → Prop), (∀ r, Q (f x) (h' ++ r)) → wp (te ((wipeL l vs).set i (some x))) Q h') (q : ∀ r, Q (.lst (xs.map f)) (h ++ r)) : wp (lcV mi (nameG i) yesT te vs l) Q h := by
  rw [wp_lcV, wp_of e]
  obtain ⟨r, er⟩ := lcL_app f xs h k
  exact ⟨_, _, er, q r⟩
def ftxt (ss : List Stp) : List Nat := TL.joinL [32, 62, 32] (ss.map Stp.txt)
theorem txt_len {s : Stp} (k : s.Ok) : s.txt.length ≤ 210 := by
  have := joinL_len [32] s.wds
  have := (wds_sum k).2
  simp only [List.length_cons, List.length_nil] at *
  unfold Stp.txt
  omega
theorem sum_len {n : Nat} : ∀ {zs : List (List Nat)}, (∀ x ∈ zs, x.length ≤ n) → (zs.map (·.length)).sum ≤ zs.length * n
  | [], _ => by simp
  | z :: zs, k => by
    have := sum_len (zs := zs) fun x hx => k x (List.mem_cons_of_mem _ hx)
    have := k z (by simp)
    simp only [List.map_cons, List.sum_cons, List.length_cons, Nat.succ_mul]
    omega
theorem ftxt_len {ss : List Stp} (k : ∀ s ∈ ss, s.Ok) (len : ss.length ≤ 4) : (ftxt ss).length ≤ 900 := by
  have h1 := joinL_len [32, 62, 32] (ss.map Stp.txt)
  have h2 := sum_len (n := 210) (zs := ss.map Stp.txt) fun x hx => by
    obtain ⟨s, hs, rfl⟩ := List.mem_map.mp hx
    exact txt_len (k s hs)
  simp only [List.length_cons, List.length_nil, List.length_map] at h1 h2
  unfold ftxt
  omega
def txtD (d : D) : D := match d with
  | .tup [.str ax, .str tag, .tup ms, .tup tx, .tup hs, .int n] => .str (Stp.txt ⟨ax, tag, (txs ms).getD [], (txs tx).getD [], (match hs with | [.str a, .str b] => some (a, b) | _ => none), n.toNat⟩)
  | d => d
theorem txtD_toD (s : Stp) : txtD s.toD = .str s.txt := by
  obtain ⟨ax, tag, ms, tx, hs, nth⟩ := s
  unfold Stp.toD txtD
  simp only [txs_map, Option.getD_some, Int.toNat_natCast]
  cases hs with
  | none => rfl
  | some p => rfl
theorem w_finder_text {ss : List Stp} (k : ∀ s ∈ ss, s.Ok) (len : ss.length ≤ 4) (q : ∀ r, Q (.str (ftxt ss)) (h ++ r)) : wp (m_finder_text [.tup (ss.map Stp.toD)]) Q h := by
  unfold m_finder_text b_finder_text
  rw [wp_body1, wpS_ret, wp_strMV, cst_eq, wp_okM']
  show gives (some [32, 62, 32]) _
  simp only [gives_some]
  refine lc_app (xs := ss.map Stp.toD) txtD rfl (fun x hx h' Q' q' => ?_) fun r => ?_
  · obtain ⟨s, hs, rfl⟩ := List.mem_map.mp hx
    rw [txtD_toD] at q'
    show wp (callF m_step_text (consA (getL 1) nilA) [some (.tup (ss.map Stp.toD)), some s.toD]) Q' h'
    simp only [wp_callF, wp_consA, wp_nilA, getL_1, getL_cons0, wp_okM']
    exact w_step_text (k s hs) q'
  · have e1 : (ss.map Stp.toD).map txtD = (ss.map Stp.txt).map D.str := by simp [txtD_toD]
    rw [e1]
    have h2 := sum_len (n := 210) (zs := ss.map Stp.txt) fun x hx => by
      obtain ⟨s, hs, rfl⟩ := List.mem_map.mp hx
      exact txt_len (k s hs)
    rw [joinD_ok (zs := ss.map Stp.txt) rfl (by simp only [List.length_map, List.length_cons, List.length_nil] at h2 ⊢; omega)]
    exact q r
/-! ### step_of -/
def tagO (x : List Nat) : List Nat := if x == [42] then [] else x
theorem w_tag_of {x : List Nat} : wp (m_tag_of [.str x]) Q h = Q (.str (tagO x)) h := by
  unfold m_tag_of b_tag_of
  rw [wp_body1, wpS_ret, wp_ifV, wp_toTB, wp_op2]
  simp only [getL_cons0, wp_okM', cst_eq]
  show gives (some (D.bl (x == [42]))) _ = _
  simp only [gives_some, asB_bl, cst_eq, wp_okM']
  unfold tagO
  split <;> rfl
def idxE (w : List Nat) : Nat := (w.takeWhile fun c => !(c == 61)).length
theorem par_eq : ∀ (w acc : List Nat), 61 ∈ w → ∃ q, TL.par [61] acc w = some (acc ++ w.takeWhile (fun c => !(c == 61)), q)
  | [], acc, h => by cases h
  | c :: r, acc, h => by
    unfold TL.par
    by_cases e : c = 61
    · subst e
      rw [if_pos (by rfl)]
      exact ⟨r, by simp [List.takeWhile]⟩
    · have e' : (c == 61) = false := by simpa using e
      have e2 : TL.pre [61] (c :: r) = false := by simp [TL.pre]; intro z; exact absurd z e
      rw [if_neg (by rw [e2]; exact Bool.false_ne_true)]
      have hm : 61 ∈ r := by
        rcases List.mem_cons.mp h with z | z
        · exact absurd z.symm e
        · exact z
      obtain ⟨q, eq⟩ := par_eq r (acc ++ [c]) hm
      exact ⟨q, by rw [eq]; simp [List.takeWhile, e']⟩
theorem index_eq {w : List Nat} (hm : 61 ∈ w) : indexD h w (.str [61]) = some (.int (idxE w : Nat)) := by
  unfold indexD
  obtain ⟨q, e⟩ := par_eq w [] hm
  simp only [List.length_cons, List.length_nil, ne_eq, Nat.reduceAdd, Nat.one_ne_zero, not_false_eq_true, if_true, e, Option.map_some, List.nil_append]
  rfl
structure Raw where
  ms : List (List Nat)
  so : List (List Nat)
  hs : List (List Nat)
  nth : Int
def Raw.step (r : Raw) (w : List Nat) : Raw :=
  if w.take 1 == [46] then { r with ms := r.ms ++ [w.drop 1] }
  else if w.take 1 == [61] then { r with so := [w.drop 1] }
  else if (w.take 1 == [126]) && decide (61 ∈ w) then { r with hs := [tagO ((w.drop 1).take (idxE w - 1)), w.drop (idxE w + 1)] }
  else if w == [35, 49] || w == [35, 50] || w == [35, 51] then { r with nth := (w.getD 1 0 : Int) - 48 }
  else r
def Raw.toD (a b : List Nat) (r : Raw) : D := .tup [.str a, .str (tagO b), .tup (r.ms.map D.str), .tup (r.so.map D.str), .tup (r.hs.map D.str), .int r.nth]
def stepOfD (x : List Nat) : D := match TL.spl [32] 0 [] x with
  | a :: b :: ws => Raw.toD a b (ws.foldl Raw.step ⟨[], [], [], 0⟩)
  | _ => .non
end Mz

namespace Mz
open PySem L2
variable {Q : D → Hc → Prop} {h : Hc} {d : D} {l : L}
theorem splitD_ok {a b : List Nat} (h1 : b ≠ []) (h2 : b.all (· < 256) = true) (h3 : a.length ≤ 1000000) : splitD h a (.str b) = some (.lst ((TL.spl b 0 [] a).map D.str)) := by
  unfold splitD
  have : a.length + 2 ≤ sizeLine := Nat.le_trans (by omega : _ ≤ 2000000) (by decide)
  simp only
  rw [if_pos ⟨by simpa using h1, h2, this⟩]
theorem eqD_str' {x y : List Nat} : eqD h (.str x) (.str y) = some (.bl (x == y)) := rfl
theorem inD_eq {w : List Nat} : inD h (.str [61]) (.str w) = some (.bl (decide (61 ∈ w))) := rfl
theorem fig_in {w : List Nat} : inD h (.str w) (.tup [.str [35, 49], .str [35, 50], .str [35, 51]]) = some (.bl (w == [35, 49] || w == [35, 50] || w == [35, 51])) := by
  have e : inD h (.str w) (.tup [.str [35, 49], .str [35, 50], .str [35, 51]]) = some (.bl (inSeq (.str w) [.str [35, 49], .str [35, 50], .str [35, 51]])) := inD_tup rfl
  rw [e]
  show some (D.bl (([35, 49] == w) || (([35, 50] == w) || (([35, 51] == w) || false)))) = _
  rw [Bool.or_false, ← Bool.or_assoc, show ([35, 49] == w) = (w == [35, 49]) from Bool.beq_comm, show ([35, 50] == w) = (w == [35, 50]) from Bool.beq_comm, show ([35, 51] == w) = (w == [35, 51]) from Bool.beq_comm]
def InvS (h0 : Hc) (x0 x1 : Option D) (rest : List (List Nat)) (ds : List D) (l : L) (h : Hc) : Prop :=
  ∃ done todo x2, ∃ r : Raw, rest = done ++ todo ∧ ds = todo.map D.str ∧ r = done.foldl Raw.step ⟨[], [], [], 0⟩ ∧ r.ms.length ≤ done.length ∧ l = [x0, x1, x2, some (.ref h0.length), some (.tup (r.so.map D.str)), some (.tup (r.hs.map D.str)), some (.int r.nth)] ∧ h = h0 ++ [.lst (r.ms.map D.str)]
theorem w_step_of {x : List Nat} (lx : x.length ≤ 100000) (q : ∀ r, Q (stepOfD x) (h ++ r)) : wp (m_step_of [.str x]) Q h := by
  have sp := spl_parts [32] x 0 []
  unfold stepOfD at q
  unfold m_step_of b_step_of
  rw [wp_body1, show List.replicate (7 - 1) (none : Option D) = [none, none, none, none, none, none] from rfl, wpS_seq, wpS_set, wp_strMV]
  simp only [getL_cons0, wp_okM', asS_str, gives_some, cst_eq]
  rw [splitD_ok (by simp) rfl (by omega)]
  generalize TL.spl [32] 0 [] x = ws at q sp
  obtain ⟨sp1, sp2⟩ := sp
  simp only [gives_some, setL_1]
  rw [wpS_seq, wpS_if]
  simp only [wp_toTB, wp_op2, wp_callV, wp_consA, wp_nilA, getL_1, getL_cons0, wp_okM', lenD_lst, gives_some, cst_eq, ltD_int, asB_bl, List.length_map]
  match ws, q, sp1, sp2 with
  | [], q, _, _ =>
    rw [decide_eq_true (by simp), if_pos rfl, wpS_ret, cst_eq, wp_okM']
    simpa using q []
  | [a], q, _, _ =>
    rw [decide_eq_true (by simp), if_pos rfl, wpS_ret, cst_eq, wp_okM']
    simpa using q []
  | a :: b :: rest, q, sp1, sp2 =>
    rw [decide_eq_false (by simp; omega), if_neg Bool.false_ne_true, wpS_next, wpS_seq, wpS_asg]
    simp only [wp_tupV, wp_consA, wp_lstN, wp_nilA, List.length_nil, Nat.zero_le, true_and, cst_eq, wp_okM', List.length_cons]
    have s4 : 0 + 1 + 1 + 1 + 1 ≤ sizeLine := sizeK (by decide)
    refine ⟨s4, ?_⟩
    show wpS _ _ _ [some (.str x), some (.lst ((a :: b :: rest).map D.str)), none, some (.ref h.length), some (.tup []), some (.tup []), some (.int 0)] (h ++ [.lst []])
    rw [wpS_seq]
    have ei : itV (slV (getL 1) (someO (cst (.int 2))) noO) [some (.str x), some (.lst ((a :: b :: rest).map D.str)), none, some (.ref h.length), some (.tup []), some (.tup []), some (.int 0)] (h ++ [.lst []]) = .ok (rest.map D.str) (h ++ [.lst []]) := by
      apply ok_of_wp
      simp only [wp_itV, wp_slV, getL_1, getL_cons0, wp_okM', wp_someO, cst_eq, asI_int, gives_some, wp_noO]
      show gives (some (D.lst (cut ((a :: b :: rest).map D.str) (some 2) none))) _
      rw [cut_2]
      simp [itemsD]
    refine wpS_for (InvS h (some (.str x)) (some (.lst ((a :: b :: rest).map D.str))) rest) ei ⟨[], rest, none, ⟨[], [], [], 0⟩, rfl, rfl, rfl, by simp, rfl, rfl⟩ ?_ ?_
    · rintro d ds l h2 ⟨done, todo, x2, r, e1, e2, er, lr, rfl, rfl⟩
      cases todo with
      | nil => cases e2
      | cons w todo =>
        simp only [List.map_cons, List.cons.injEq] at e2
        obtain ⟨rfl, rfl⟩ := e2
        refine ⟨_, rfl, ?_⟩
        simp only [setL_2]
        have lw : w.length ≤ 100000 := by
          have := (sp2 w (by rw [e1]; simp)).1
          simp at this
          omega
        have ld : done.length ≤ 100001 := by
          rw [e1] at sp1
          simp at sp1
          omega
        have fin : ∀ (so hs : List (List Nat)) (ms : List (List Nat)) (nth : Int), Raw.step r w = ⟨ms, so, hs, nth⟩ → ms.length ≤ done.length + 1 →
            InvS h (some (.str x)) (some (.lst ((a :: b :: rest).map D.str))) rest (todo.map D.str) [some (.str x), some (.lst ((a :: b :: rest).map D.str)), some (.str w), some (.ref h.length), some (.tup (so.map D.str)), some (.tup (hs.map D.str)), some (.int nth)] (h ++ [.lst (ms.map D.str)]) := fun so hs ms nth e lm =>
          ⟨done ++ [w], todo, some (.str w), ⟨ms, so, hs, nth⟩, by simp [e1], rfl, by rw [List.foldl_append, ← er]; exact e.symm, by simpa using lm, rfl, rfl⟩
        rw [wpS_if]
        simp only [wp_toTB, wp_op2, wp_slV, getL_2, getL_cons0, wp_okM', wp_noO, wp_someO, cst_eq, asI_int, gives_some, slD_str, cut_t1, eqD_str', asB_bl]
        by_cases c1 : (w.take 1 == [46]) = true
        · rw [c1, if_pos rfl, wpS_expr, wp_appV, getL_3, getL_cons0, wp_okM', refL_ref, objL_new]
          simp only [Option.map_some, gives_some, wp_consA, wp_nilA, wp_slV, getL_2, getL_cons0, wp_okM', wp_someO, cst_eq, asI_int, wp_noO, slD_str, cut_1, wp_one]
          rw [wp_appH objL_new (Nat.lt_of_lt_of_le (by rw [List.length_map]; omega : _ < 200000) (by decide)), set_new]
          have := fin r.so r.hs (r.ms ++ [w.drop 1]) r.nth (by unfold Raw.step; rw [if_pos c1]) (by simp; omega)
          simpa using this
        · have c1' : (w.take 1 == [46]) = false := by simpa using c1
          rw [c1', if_neg Bool.false_ne_true, wpS_if]
          simp only [wp_toTB, wp_op2, wp_slV, getL_2, getL_cons0, wp_okM', wp_noO, wp_someO, cst_eq, asI_int, gives_some, slD_str, cut_t1, eqD_str', asB_bl]
          by_cases c2 : (w.take 1 == [61]) = true
          · rw [c2, if_pos rfl, wpS_set]
            simp only [wp_tupV, wp_consA, wp_nilA, wp_slV, getL_2, getL_cons0, wp_okM', wp_someO, cst_eq, asI_int, gives_some, wp_noO, slD_str, cut_1, List.length_cons, List.length_nil, setL_4]
            exact ⟨sizeK (by decide), fin [w.drop 1] r.hs r.ms r.nth (by unfold Raw.step; rw [if_neg c1, if_pos c2]) (by omega)⟩
          · have c2' : (w.take 1 == [61]) = false := by simpa using c2
            rw [c2', if_neg Bool.false_ne_true, wpS_if]
            simp only [wp_andT, wp_toTB, wp_op2, wp_slV, getL_2, getL_cons0, wp_okM', wp_noO, wp_someO, cst_eq, asI_int, gives_some, slD_str, cut_t1, eqD_str', asB_bl, inD_eq]
            have rest4 : ((w.take 1 == [126]) && decide (61 ∈ w)) = false → wpS (ifS (toTB (op2 inD (getL 2) (tupV (consA (cst (.str [35, 49])) (consA (cst (.str [35, 50])) (consA (cst (.str [35, 51])) (nilA))))))) (setS 6 (callV intTD (consA (slV (getL 2) (someO (cst (.int 1))) noO) (nilA)))) (nextS))
                (InvS h (some (.str x)) (some (.lst ((a :: b :: rest).map D.str))) rest (todo.map D.str)) Q [some (.str x), some (.lst ((a :: b :: rest).map D.str)), some (.str w), some (.ref h.length), some (.tup (r.so.map D.str)), some (.tup (r.hs.map D.str)), some (.int r.nth)] (h ++ [.lst (r.ms.map D.str)]) := by
              intro c3
              rw [wpS_if]
              simp only [wp_toTB, wp_op2, getL_2, getL_cons0, wp_okM', wp_tupV, wp_consA, wp_nilA, cst_eq, List.length_cons, List.length_nil]
              refine ⟨sizeK (by decide), ?_⟩
              rw [fig_in]
              simp only [gives_some, asB_bl]
              by_cases c4 : (w == [35, 49] || w == [35, 50] || w == [35, 51]) = true
              · rw [c4, if_pos rfl, wpS_set]
                simp only [wp_callV, wp_consA, wp_nilA, wp_slV, getL_2, getL_cons0, wp_okM', wp_someO, cst_eq, asI_int, gives_some, wp_noO, slD_str, cut_1]
                have hst : Raw.step r w = ⟨r.ms, r.so, r.hs, (w.getD 1 0 : Int) - 48⟩ := by unfold Raw.step; rw [if_neg c1, if_neg c2, c3, if_neg Bool.false_ne_true, if_pos c4]
                have := fin r.so r.hs r.ms ((w.getD 1 0 : Int) - 48) hst (by omega)
                simp only [Bool.or_eq_true, beq_iff_eq] at c4
                rcases c4 with (rfl | rfl) | rfl <;> exact this
              · have c4' : (w == [35, 49] || w == [35, 50] || w == [35, 51]) = false := by simpa using c4
                rw [c4', if_neg Bool.false_ne_true, wpS_next]
                exact fin r.so r.hs r.ms r.nth (by unfold Raw.step; rw [if_neg c1, if_neg c2, c3, if_neg Bool.false_ne_true, if_neg c4]) (by omega)
            by_cases c3 : (w.take 1 == [126]) = true
            · rw [c3, if_pos rfl]
              by_cases c5 : 61 ∈ w
              · rw [decide_eq_true c5, if_pos rfl, wpS_set]
                have i1 : idxE w ≤ w.length := (List.takeWhile_sublist _).length_le
                have i0 : 1 ≤ idxE w := by
                  cases w with
                  | nil => simp at c5
                  | cons c w' =>
                    have hc : c = 126 := by simpa using c3
                    subst hc
                    simp [idxE, List.takeWhile]
                have k1 : cut w (some 1) (some ((idxE w : Nat) : Int)) = (w.drop 1).take (idxE w - 1) := cut_mid 1 (idxE w) i1 i0
                have k2 : cut w (some (((idxE w : Nat) : Int) + 1)) none = w.drop (idxE w + 1) := cut_from (idxE w + 1)
                simp only [wp_tupV, wp_consA, wp_nilA, wp_callF, wp_slV, getL_2, getL_cons0, wp_okM', wp_someO, cst_eq, asI_int, gives_some, wp_noO, slD_str, wp_strMV, asS_str, index_eq c5, k1, w_tag_of, wp_op2, addD_int, k2, List.length_cons, List.length_nil, setL_5]
                exact ⟨sizeK (by decide), fin r.so [tagO ((w.drop 1).take (idxE w - 1)), w.drop (idxE w + 1)] r.ms r.nth (by unfold Raw.step; rw [if_neg c1, if_neg c2, c3, decide_eq_true c5]; rfl) (by omega)⟩
              · rw [decide_eq_false c5, if_neg Bool.false_ne_true]
                exact rest4 (by rw [c3, decide_eq_false c5]; rfl)
            · have c3' : (w.take 1 == [126]) = false := by simpa using c3
              rw [c3', if_neg Bool.false_ne_true, if_neg Bool.false_ne_true]
              exact rest4 (by rw [c3']; rfl)
    · rintro l h2 ⟨done, todo, x2, r, e1, e2, er, lr, rfl, rfl⟩
      have et : todo = [] := by
        cases todo with
        | nil => rfl
        | cons x r => cases e2
      subst et
      rw [List.append_nil] at e1
      subst e1
      rw [wpS_ret]
      have o1 : objL (h ++ [.lst (r.ms.map D.str)]) h.length = some (r.ms.map D.str) := objL_new
      have et3 : tupleD (h ++ [.lst (r.ms.map D.str)]) [.ref h.length] = some (.tup (r.ms.map D.str)) := by
        show (objL (h ++ [.lst (r.ms.map D.str)]) h.length).map (fun xs => D.tup xs) = _
        rw [o1]; rfl
      have i0 : L2.atI ((a :: b :: rest).map D.str) 0 = some (.str a) := (atI_at (xs := (a :: b :: rest).map D.str) (i := 0) (by simp)).trans rfl
      have i1 : L2.atI ((a :: b :: rest).map D.str) 1 = some (.str b) := (atI_at (xs := (a :: b :: rest).map D.str) (i := 1) (by simp)).trans rfl
      simp only [wp_tupV, wp_consA, wp_nilA, wp_op2, getL_1, getL_cons0, wp_okM', cst_eq, ixD_lst, i0, i1, gives_some, wp_callF, w_tag_of, wp_callV, getL_3, et3, getL_4, getL_5, getL_6, List.length_cons, List.length_nil]
      refine ⟨sizeK (by decide), ?_⟩
      have := q [.lst (r.ms.map D.str)]
      rw [er]
      rw [er] at this
      exact this
end Mz

/-! what is written is read -/
namespace Mz
open PySem L2
variable {Q : D → Hc → Prop} {h : Hc} {d : D} {l : L}
theorem tagO_A {x : List Nat} (k : ∀ c ∈ x, plainC c) : tagO (tagA x) = x := by
  unfold tagO tagA
  cases x with
  | nil => rfl
  | cons c r =>
    have := k c (by simp)
    unfold plainC at this
    simp only [List.isEmpty_cons, Bool.false_eq_true, if_false]
    rw [if_neg]
    simp
    intro e
    omega
theorem fold_marks (r : Raw) : ∀ ms : List (List Nat), (ms.map fun x => 46 :: x).foldl Raw.step r = { r with ms := r.ms ++ ms } := by
  intro ms
  induction ms generalizing r with
  | nil => simp
  | cons x ms ih =>
    have e : Raw.step r (46 :: x) = { r with ms := r.ms ++ [x] } := by unfold Raw.step; rw [if_pos (by simp)]; simp
    rw [List.map_cons, List.foldl_cons, e, ih]
    simp
theorem fold_text (r : Raw) (e0 : r.so = []) {tx : List (List Nat)} (l1 : tx.length ≤ 1) : (tx.map fun x => 61 :: x).foldl Raw.step r = { r with so := tx } := by
  match tx, l1 with
  | [], _ => cases r; simp at e0; simp [e0]
  | [x], _ => simp [Raw.step]
  | _ :: _ :: _, l1 => simp at l1
theorem takeWhile_E {p b : List Nat} (k : ∀ c ∈ p, c ≠ 61) : (p ++ 61 :: b).takeWhile (fun c => !(c == 61)) = p := by
  induction p with
  | nil => simp [List.takeWhile]
  | cons c r ih =>
    have hc : (c == 61) = false := by simpa using k c (by simp)
    simp only [List.cons_append, List.takeWhile, hc, Bool.not_false]
    rw [ih fun x hx => k x (List.mem_cons_of_mem _ hx)]
theorem tagA_plain {x : List Nat} (k : ∀ c ∈ x, plainC c) : ∀ c ∈ tagA x, c ≠ 32 ∧ c ≠ 62 ∧ c ≠ 61 := by
  unfold tagA
  split
  · intro c hc
    simp at hc
    omega
  · intro c hc
    have := k c hc
    unfold plainC at this
    omega
theorem step_has (r : Raw) {a b : List Nat} (ka : ∀ c ∈ a, plainC c) : Raw.step r (126 :: (tagA a ++ 61 :: b)) = { r with hs := [a, b] } := by
  have ei : idxE (126 :: (tagA a ++ 61 :: b)) = (tagA a).length + 1 := by
    unfold idxE
    rw [← List.cons_append, takeWhile_E]
    · simp
    · intro c hc
      rcases List.mem_cons.mp hc with rfl | hc
      · decide
      · exact (tagA_plain ka c hc).2.2
  unfold Raw.step
  rw [if_neg (by simp), if_neg (by simp), if_pos (by simp), ei]
  have e1 : ((126 :: (tagA a ++ 61 :: b)).drop 1).take ((tagA a).length + 1 - 1) = tagA a := by simp
  have e2 : (126 :: (tagA a ++ 61 :: b)).drop ((tagA a).length + 1 + 1) = b := by
    rw [List.drop_succ_cons, List.drop_append]
    simp
  rw [e1, e2, tagO_A ka]
theorem wds_plain {s : Stp} (k : s.Ok) : ∀ w ∈ s.wds, ∀ c ∈ w, c ≠ 32 ∧ c ≠ 62 := by
  obtain ⟨ax, tag, ms, tx, hs, nth⟩ := s
  intro w hw c hc
  unfold Stp.wds Stp.wds0 at hw
  simp only [List.mem_append, List.mem_cons, List.mem_map] at hw
  rcases hw with ((rfl | rfl | ⟨x, hx, rfl⟩ | ⟨x, hx, rfl⟩) | hw) | hw
  · have := (axis_form k.ax).2 c hc
    unfold plainC at this
    omega
  · have := tagA_plain (tag_form k.tag).2 c hc
    omega
  · rcases List.mem_cons.mp hc with rfl | hc
    · decide
    · have := name_plain ((marks_form k.ms).2 x hx) c hc
      unfold plainC at this
      omega
  · rcases List.mem_cons.mp hc with rfl | hc
    · decide
    · have := (sought_form (k.tx.2 x hx)).2.2 c hc
      unfold plainC at this
      omega
  · unfold Stp.hasW at hw
    match hs, k.hs, hw with
    | none, _, hw => cases hw
    | some (a, b), kh, hw =>
      obtain ⟨k1, k2⟩ := kh a b rfl
      have hw : w = 126 :: (tagA a ++ 61 :: b) := by simpa using hw
      subst hw
      simp only [List.mem_cons, List.mem_append] at hc
      rcases hc with rfl | hc | rfl | hc
      · decide
      · have := tagA_plain (tag_form k1).2 c hc
        omega
      · decide
      · have := (sought_form k2).2.2 c hc
        unfold plainC at this
        omega
  · unfold Stp.nthW at hw
    split at hw
    · cases hw
    · have hw : w = [35, 48 + nth] := by simpa using hw
      subst hw
      have := k.nth
      simp at hc this
      omega
theorem stepOf_txt {s : Stp} (k : s.Ok) : stepOfD s.txt = s.toD := by
  have ew : TL.spl [32] 0 [] s.txt = s.wds := by
    unfold Stp.txt
    refine SX.spl_join (by unfold Stp.wds Stp.wds0; simp) fun p hp hc => ?_
    exact (wds_plain k p hp 32 hc).1 rfl
  unfold stepOfD
  rw [ew]
  obtain ⟨ax, tag, ms, tx, hs, nth⟩ := s
  have kt := (tag_form k.tag).2
  have e1 : Stp.wds ⟨ax, tag, ms, tx, hs, nth⟩ = ax :: tagA tag :: ((ms.map fun x => 46 :: x) ++ (tx.map fun x => 61 :: x) ++ Stp.hasW ⟨ax, tag, ms, tx, hs, nth⟩ ++ Stp.nthW ⟨ax, tag, ms, tx, hs, nth⟩) := by
    unfold Stp.wds Stp.wds0
    simp
  rw [e1]
  simp only [List.foldl_append]
  rw [fold_marks, fold_text _ rfl k.tx.1]
  have eh : ∀ r : Raw, r.hs = [] → (Stp.hasW ⟨ax, tag, ms, tx, hs, nth⟩).foldl Raw.step r = { r with hs := (match hs with | none => [] | some (a, b) => [a, b]) } := by
    intro r hr
    match hs, k.hs with
    | none, _ => cases r; simp at hr; simp [Stp.hasW, hr]
    | some (a, b), kh =>
      have := step_has r (b := b) (tag_form (kh a b rfl).1).2
      simpa [Stp.hasW] using this
  rw [eh _ rfl]
  have en : ∀ r : Raw, r.nth = 0 → (Stp.nthW ⟨ax, tag, ms, tx, hs, nth⟩).foldl Raw.step r = { r with nth := (nth : Nat) } := by
    intro r hr
    unfold Stp.nthW
    split
    · rename_i z
      dsimp only at z
      subst z
      cases r
      simp at hr
      simp [hr]
    · rename_i z
      have hn : nth ≤ 3 := k.nth
      dsimp only at z
      have : nth = 1 ∨ nth = 2 ∨ nth = 3 := by omega
      rcases this with rfl | rfl | rfl <;> rfl
  rw [en _ rfl]
  unfold Raw.toD Stp.toD
  rw [tagO_A kt]
  cases hs with
  | none => rfl
  | some p => rfl
/-! ### the joint of steps -/
theorem spl_gt {p : List Nat} (k : ∀ c ∈ p, c ≠ 62) (acc r : List Nat) : TL.spl [32, 62, 32] 0 acc (p ++ 32 :: 62 :: 32 :: r) = (acc ++ p) :: TL.spl [32, 62, 32] 0 [] r := by
  induction p generalizing acc with
  | nil =>
    rw [List.nil_append, TL.spl_hit (by simp [TL.pre])]
    simp [TL.spl]
  | cons c p ih =>
    have hp : TL.pre [32, 62, 32] (c :: (p ++ 32 :: 62 :: 32 :: r)) = false := by
      cases p with
      | nil => simp [TL.pre]
      | cons e p =>
        have := k e (by simp)
        simp [TL.pre]
        intro _ z
        exact absurd z this
    rw [List.cons_append, TL.spl_miss hp, ih fun x hx => k x (List.mem_cons_of_mem _ hx)]
    simp
theorem spl_gt1 {p : List Nat} (k : ∀ c ∈ p, c ≠ 62) (acc : List Nat) : TL.spl [32, 62, 32] 0 acc p = [acc ++ p] := by
  induction p generalizing acc with
  | nil => simp [TL.spl]
  | cons c p ih =>
    have hp : TL.pre [32, 62, 32] (c :: p) = false := by
      cases p with
      | nil => simp [TL.pre]
      | cons e p =>
        have := k e (by simp)
        simp [TL.pre]
        intro _ z
        exact absurd z this
    rw [TL.spl_miss hp, ih fun x hx => k x (List.mem_cons_of_mem _ hx)]
    simp
theorem spl_joint : ∀ {ps : List (List Nat)}, ps ≠ [] → (∀ p ∈ ps, ∀ c ∈ p, c ≠ 62) → TL.spl [32, 62, 32] 0 [] (TL.joinL [32, 62, 32] ps) = ps
  | [], h, _ => absurd rfl h
  | [p], _, k => by
    show TL.spl [32, 62, 32] 0 [] p = [p]
    rw [spl_gt1 (k p (by simp))]
    simp
  | p :: q :: r, _, k => by
    show TL.spl [32, 62, 32] 0 [] (p ++ ([32, 62, 32] ++ TL.joinL [32, 62, 32] (q :: r))) = p :: q :: r
    have := spl_gt (k p (by simp)) [] (TL.joinL [32, 62, 32] (q :: r))
    simp only [List.cons_append, List.nil_append] at this ⊢
    rw [this, spl_joint (by simp) fun x hx => k x (List.mem_cons_of_mem _ hx)]
theorem glue_noGt {ws : List (List Nat)} (k : ∀ w ∈ ws, ∀ c ∈ w, c ≠ 62) : ∀ c ∈ TL.joinL [32] ws, c ≠ 62 := by
  cases ws with
  | nil => intro c hc; cases hc
  | cons w ws =>
    rw [joinL_glue]
    intro c hc
    rcases List.mem_append.mp hc with hc | hc
    · exact k w (by simp) c hc
    · unfold glue at hc
      obtain ⟨x, hx, hc⟩ := List.mem_flatMap.mp hc
      rcases List.mem_cons.mp hc with rfl | hc
      · decide
      · exact k x (List.mem_cons_of_mem _ hx) c hc
theorem spl_ftxt {ss : List Stp} (k : ∀ s ∈ ss, s.Ok) (ne : ss ≠ []) : (TL.spl [32, 62, 32] 0 [] (ftxt ss)).map stepOfD = ss.map Stp.toD := by
  unfold ftxt
  rw [spl_joint (by simpa using ne) (fun p hp => ?_)]
  · rw [List.map_map]
    exact List.map_congr_left fun s hs => stepOf_txt (k s hs)
  · obtain ⟨s, hs, rfl⟩ := List.mem_map.mp hp
    unfold Stp.txt
    exact glue_noGt fun w hw c hc => (wds_plain (k s hs) w hw c hc).2
end Mz

namespace Mz
open PySem L2
variable {Q : D → Hc → Prop} {h : Hc} {d : D} {l : L}
theorem dats_strs : ∀ xs : List (List Nat), dats (xs.map D.str) = true ∧ deps (xs.map D.str) = 0
  | [] => ⟨rfl, rfl⟩
  | x :: xs => by
    obtain ⟨h1, h2⟩ := dats_strs xs
    exact ⟨by show (dat (.str x) && dats (xs.map D.str)) = true; rw [h1]; rfl, by show max (dep (.str x)) (deps (xs.map D.str)) = 0; rw [h2]; rfl⟩
theorem raw_ok (a b : List Nat) (r : Raw) : dat (Raw.toD a b r) = true ∧ dep (Raw.toD a b r) ≤ 2 := by
  unfold Raw.toD
  constructor
  · simp [dat, dats, (dats_strs _).1]
  · simp [dep, deps, (dats_strs _).2]
theorem stepOfD_ok (x : List Nat) : dat (stepOfD x) = true ∧ dep (stepOfD x) ≤ 2 := by
  unfold stepOfD
  split
  · exact raw_ok _ _ _
  · exact ⟨rfl, by show 0 ≤ 2; omega⟩
theorem all_ok : ∀ {ds : List D}, (∀ d ∈ ds, dat d = true ∧ dep d ≤ 2) → dats ds = true ∧ deps ds ≤ 2
  | [], _ => ⟨rfl, by show 0 ≤ 2; omega⟩
  | d :: ds, k => by
    obtain ⟨h1, h2⟩ := all_ok (ds := ds) fun x hx => k x (List.mem_cons_of_mem _ hx)
    obtain ⟨k1, k2⟩ := k d (by simp)
    refine ⟨by show (dat d && dats ds) = true; rw [h1, k1]; rfl, ?_⟩
    show max (dep d) (deps ds) ≤ 2
    omega
theorem okD_of {ds : List D} (k : ∀ d ∈ ds, dat d = true ∧ dep d ≤ 2) : okD (.tup ds) = true := by
  obtain ⟨h1, h2⟩ := all_ok k
  unfold okD
  rw [show dat (.tup ds) = dats ds from rfl, show dep (.tup ds) = deps ds + 1 from rfl, h1, decide_eq_true (by omega)]; rfl
theorem toD_ok (s : Stp) : dat s.toD = true ∧ dep s.toD ≤ 2 := by
  obtain ⟨ax, tag, ms, tx, hs, nth⟩ := s
  unfold Stp.toD
  have e : Stp.hsD ⟨ax, tag, ms, tx, hs, nth⟩ = (match hs with | none => [] | some (a, b) => [a, b]).map D.str := by
    cases hs with
    | none => rfl
    | some p => rfl
  constructor
  · dsimp only
    rw [e]
    simp [dat, dats, (dats_strs _).1]
  · dsimp only
    rw [e]
    simp [dep, deps, (dats_strs _).2]
theorem stps_of {ds : List D} (e : ds.all stepB = true) : ∃ ss : List Stp, ds = ss.map Stp.toD ∧ ∀ s ∈ ss, s.Ok := by
  induction ds with
  | nil => exact ⟨[], rfl, by simp⟩
  | cons d ds ih =>
    simp only [List.all_cons, Bool.and_eq_true] at e
    obtain ⟨s, rfl, k⟩ := stp_of e.1
    obtain ⟨ss, rfl, ks⟩ := ih e.2
    exact ⟨s :: ss, rfl, by
      intro t ht
      rcases List.mem_cons.mp ht with rfl | ht
      · exact k
      · exact ks t ht⟩
theorem fin_parts {ds : List D} (e : finB (.tup ds) = true) : 1 ≤ ds.length ∧ ds.length ≤ 4 ∧ ds.all stepB = true ∧ finT ds = true := by
  have e : (decide ((1 : Int) ≤ (ds.length : Nat)) && decide (((ds.length : Nat) : Int) ≤ 4) && ds.all stepB && finT ds) = true := e
  simp only [Bool.and_eq_true, decide_eq_true_eq] at e
  exact ⟨by omega, by omega, e.1.2, e.2⟩
/-- the text of a step's data -/
def tTx (d : D) : List Nat := match txtD d with
  | .str x => x
  | _ => []
def finderOf (x : List Nat) : D := if finB (.tup ((TL.spl [32, 62, 32] 0 [] x).map stepOfD)) && (TL.joinL [32, 62, 32] (((TL.spl [32, 62, 32] 0 [] x).map stepOfD).map tTx) == x) then .tup ((TL.spl [32, 62, 32] 0 [] x).map stepOfD) else .non
theorem tTx_map (ss : List Stp) : (ss.map Stp.toD).map tTx = ss.map Stp.txt := by
  rw [List.map_map]
  exact List.map_congr_left fun s _ => by show tTx s.toD = s.txt; unfold tTx; rw [txtD_toD]
theorem w_finder_of {x : List Nat} (lx : x.length ≤ 100000) (q : ∀ r, Q (finderOf x) (h ++ r)) : wp (m_finder_of [.str x]) Q h := by
  unfold finderOf at q
  have sp := spl_parts [32, 62, 32] x 0 []
  unfold m_finder_of b_finder_of
  rw [wp_body1, show List.replicate (3 - 1) (none : Option D) = [none, none] from rfl, wpS_seq, wpS_set]
  simp only [wp_callV, wp_consA, wp_nilA]
  have ei : itV (strMV splitD (getL 0) (cst c_STEP_JOINT)) [some (.str x), none, none] h = .ok ((TL.spl [32, 62, 32] 0 [] x).map D.str) h := by
    apply ok_of_wp
    simp only [wp_itV, wp_strMV, getL_cons0, wp_okM', asS_str, gives_some, cst_eq]
    rw [show c_STEP_JOINT = D.str [32, 62, 32] from rfl, splitD_ok (by simp) rfl (by omega)]
    simp [itemsD]
  generalize TL.spl [32, 62, 32] 0 [] x = ps at q sp ei
  let f : D → D := fun d => match d with
    | .str y => stepOfD y
    | d => d
  have ef : (ps.map D.str).map f = ps.map stepOfD := by rw [List.map_map]; rfl
  refine lc_app f ei (fun d hd h' Q' q' => ?_) fun r => ?_
  · obtain ⟨y, hy, rfl⟩ := List.mem_map.mp hd
    have ly := (sp.2 y hy).1
    show wp (callF m_step_of (consA (getL 2) nilA) [some (.str x), none, some (.str y)]) Q' h'
    simp only [wp_callF, wp_consA, wp_nilA, getL_2, getL_cons0, wp_okM']
    exact w_step_of (by simp at ly; omega) q'
  · rw [ef]
    show gives (some (D.tup (ps.map stepOfD))) _
    simp only [gives_some, setL_1]
    have ok : okD (.tup (ps.map stepOfD)) = true := okD_of fun d hd => by
      obtain ⟨y, hy, rfl⟩ := List.mem_map.mp hd
      exact stepOfD_ok y
    rw [wpS_ret, wp_ifV]
    simp only [wp_andT, wp_toT, wp_callF, wp_consA, wp_nilA, getL_1, getL_cons0, wp_okM']
    refine w_is_finder ok fun r2 => ?_
    simp only [truD_bl, gives_some]
    by_cases c1 : finB (.tup (ps.map stepOfD)) = true
    · rw [c1, if_pos rfl]
      obtain ⟨l1, l2, a1, a2⟩ := fin_parts c1
      obtain ⟨ss, es, ks⟩ := stps_of a1
      have lss : ss.length ≤ 4 := by
        have := congrArg List.length es
        simp only [List.length_map] at this l2
        omega
      rw [es] at q c1 ⊢
      simp only [wp_toTB, wp_op2, wp_callF, wp_consA, wp_nilA, getL_1, getL_cons0, wp_okM']
      refine w_finder_text ks lss fun r3 => ?_
      simp only [eqD_str', gives_some, asB_bl, cst_eq, wp_okM']
      rw [tTx_map, c1] at q
      have q' := q (r ++ r2 ++ r3)
      unfold ftxt
      simp only [Bool.true_and] at q'
      simp only [List.append_assoc] at q' ⊢
      split
      · rename_i z
        rw [if_pos z] at q'
        exact q'
      · rename_i z
        rw [if_neg z] at q'
        exact q'
    · have c1' : finB (.tup (ps.map stepOfD)) = false := by simpa using c1
      rw [c1', if_neg Bool.false_ne_true, if_neg Bool.false_ne_true, cst_eq, wp_okM']
      rw [c1'] at q
      have := q (r ++ r2)
      simp only [List.append_assoc]
      exact this
theorem finderOf_cases (x : List Nat) : finderOf x = .non ∨ ∃ ss : List Stp, finderOf x = .tup (ss.map Stp.toD) ∧ (∀ s ∈ ss, s.Ok) ∧ ss.length ≤ 4 ∧ finB (.tup (ss.map Stp.toD)) = true ∧ ftxt ss = x := by
  unfold finderOf
  split
  · rename_i c
    rw [Bool.and_eq_true] at c
    obtain ⟨l1, l2, a1, a2⟩ := fin_parts c.1
    obtain ⟨ss, es, ks⟩ := stps_of a1
    refine .inr ⟨ss, by rw [es], ks, ?_, by rw [← es]; exact c.1, ?_⟩
    · have := congrArg List.length es
      simp only [List.length_map] at this l2
      omega
    · have := c.2
      rw [es, tTx_map] at this
      exact beq_iff_eq.mp this
  · exact .inl rfl
theorem finderOf_good {ss : List Stp} (k : ∀ s ∈ ss, s.Ok) (f : finB (.tup (ss.map Stp.toD)) = true) : finderOf (ftxt ss) = .tup (ss.map Stp.toD) := by
  have l1 := (fin_parts f).1
  have ne : ss ≠ [] := by
    intro z
    rw [z] at l1
    simp at l1
  unfold finderOf
  rw [spl_ftxt k ne, tTx_map, f]
  unfold ftxt
  simp
end Mz

/-! how long a repr is -/
namespace Mz
open PySem L2
theorem rc_len : ∀ q ∈ [34, 39], ∀ c ∈ List.range 128, (Builtin.Str.reprChar q c).length ≤ 4 := by decide +kernel
theorem fold_le {q : Nat} (hq : q ∈ [34, 39]) : ∀ (l : List Nat) (n : Nat), (∀ c ∈ l, c < 128) → l.foldl (fun n c => n + (Builtin.Str.reprChar q c).length) n ≤ n + 4 * l.length
  | [], n, _ => by simp
  | c :: l, n, k => by
    have h1 := rc_len q hq c (List.mem_range.mpr (k c (by simp)))
    have h2 := fold_le hq l (n + (Builtin.Str.reprChar q c).length) fun x hx => k x (List.mem_cons_of_mem _ hx)
    simp only [List.foldl_cons, List.length_cons]
    omega
theorem reprText_len {x : List Nat} (k : ∀ c ∈ x, c < 128) : (reprText ⟨x.toArray⟩).length ≤ 4 * x.length + 2 := by
  have hq : reprQuote ⟨x.toArray⟩ ∈ [34, 39] := by
    unfold reprQuote
    split <;> simp
  rw [← reprLen_eq, ← Array.foldl_toList]
  have := fold_le hq x 2 k
  show List.foldl _ 2 x ≤ _
  omega
theorem textFrom_le : ∀ (ts : List Str) (k : Nat) (acc : Str), (textFrom k acc ts).length ≤ acc.length + piled ts
  | [], k, acc => by show acc.length ≤ _; simp [piled_nil]
  | t :: ts, k, acc => by
    have h := textFrom_le ts (k + 1) (acc ++ (if k > 0 then ", " else "" : String) ++ t)
    have e : (acc ++ (if k > 0 then ", " else "" : String) ++ t).length ≤ acc.length + 2 + t.length := by
      rw [strLen_append, strLen_append]
      have : (Str.ofString (if k > 0 then ", " else "" : String)).length ≤ 2 := by split <;> decide
      omega
    rw [piled_cons]
    show (textFrom (k + 1) (acc ++ (if k > 0 then ", " else "" : String) ++ t) ts).length ≤ _
    omega
theorem listText_le (ts : List Str) : (listText ts).length ≤ piled ts + 2 := by
  unfold listText
  rw [strLen_append]
  have := textFrom_le ts 0 "["
  have e1 : (Str.ofString "[").length = 1 := rfl
  have e2 : (Str.ofString "]").length = 1 := rfl
  omega
theorem tupleText_le (ts : List Str) : (tupleText ts).length ≤ piled ts + 3 := by
  unfold tupleText
  rw [strLen_append, strLen_append]
  have e1 : (Str.ofString "(").length = 1 := rfl
  have e2 : (Str.ofString (if ts.length == 1 then ",)" else ")" : String)).length ≤ 2 := by split <;> decide
  have e3 : (Str.join ", " ts).length ≤ piled ts := by
    by_cases z : ts = []
    · subst z
      show (Str.join (Str.ofString ", ") []).length ≤ 0
      decide
    · have := join_length_add ts z
      omega
  omega
def asc (s : Nat) (x : List Nat) : Bool := decide (x.length ≤ s) && x.all fun c => decide (c < 128)
/-- plain data within bounds: at most k items a tuple or list, texts of at most s signs, so deep -/
def nf (k s : Nat) : Nat → D → Bool
  | _, .non => true
  | _, .bl _ => true
  | _, .int i => [-1, 0, 1, 2, 3, 99].contains i
  | _, .str x => asc s x
  | b + 1, .tup ds => decide (ds.length ≤ k) && ds.all (nf k s b)
  | b + 1, .lst ds => decide (ds.length ≤ k) && ds.all (nf k s b)
  | _, _ => false
def bnd (k s : Nat) : Nat → Nat
  | 0 => 4 * s + 10
  | b + 1 => k * (bnd k s b + 2) + 4 * s + 10
theorem bnd_low (k s b : Nat) : 4 * s + 10 ≤ bnd k s b := by cases b <;> simp [bnd] <;> omega
theorem int_show : ∀ i ∈ ([-1, 0, 1, 2, 3, 99] : List Int), (PyData.shown (.int i)).length ≤ 5 ∧ PyData.showable (.int i) = true := by decide +kernel
theorem nf_all {k s b : Nat} {ds : List D} (ih : ∀ d, nf k s b d = true → dat d = true ∧ dep d ≤ b ∧ (toP d).showable = true ∧ (toP d).shown.length ≤ bnd k s b) :
    ds.all (nf k s b) = true → dats ds = true ∧ deps ds ≤ b ∧ PyData.showableAll (toPs ds) = true ∧ piled (PyData.shownAll (toPs ds)) ≤ ds.length * (bnd k s b + 2) := by
  induction ds with
  | nil => exact fun _ => ⟨rfl, Nat.zero_le _, rfl, by show 0 ≤ _; omega⟩
  | cons d ds ihl =>
    intro e
    simp only [List.all_cons, Bool.and_eq_true] at e
    obtain ⟨a1, a2, a3, a4⟩ := ih d e.1
    obtain ⟨b1, b2, b3, b4⟩ := ihl e.2
    refine ⟨by show (dat d && dats ds) = true; rw [a1, b1]; rfl, by show max (dep d) (deps ds) ≤ b; omega, ?_, ?_⟩
    · show ((toP d).showable && PyData.showableAll (toPs ds)) = true
      rw [a3, b3]; rfl
    · show piled ((toP d).shown :: PyData.shownAll (toPs ds)) ≤ _
      rw [piled_cons, List.length_cons, Nat.succ_mul]
      omega
theorem nf_ok {k s : Nat} : ∀ (b : Nat) (d : D), nf k s b d = true → dat d = true ∧ dep d ≤ b ∧ (toP d).showable = true ∧ (toP d).shown.length ≤ bnd k s b := by
  intro b
  have flat : ∀ (b : Nat) (d : D), (∀ ds, d ≠ .tup ds) → (∀ ds, d ≠ .lst ds) → nf k s b d = true → dat d = true ∧ dep d ≤ b ∧ (toP d).showable = true ∧ (toP d).shown.length ≤ bnd k s b := by
    intro b d n1 n2 e
    have lo := bnd_low k s b
    cases d with
    | non => exact ⟨rfl, Nat.zero_le _, rfl, Nat.le_trans (by decide : (PyData.shown .none).length ≤ 10) (by omega)⟩
    | bl c => cases c <;> exact ⟨rfl, Nat.zero_le _, rfl, Nat.le_trans (by decide) (show 10 ≤ bnd k s b by omega)⟩
    | int i =>
      have e : [-1, 0, 1, 2, 3, 99].contains i = true := by cases b <;> exact e
      have hi := int_show i (by simpa using e)
      exact ⟨rfl, Nat.zero_le _, hi.2, Nat.le_trans hi.1 (by omega)⟩
    | str x =>
      have e : asc s x = true := by cases b <;> exact e
      unfold asc at e
      simp only [Bool.and_eq_true, decide_eq_true_eq, List.all_eq_true] at e
      refine ⟨rfl, Nat.zero_le _, rfl, ?_⟩
      have := reprText_len e.2
      show (reprText ⟨x.toArray⟩).length ≤ _
      omega
    | tup ds => exact absurd rfl (n1 ds)
    | lst ds => exact absurd rfl (n2 ds)
    | _ => cases b <;> cases e
  induction b with
  | zero =>
    intro d e
    cases d with
    | tup ds => cases e
    | lst ds => cases e
    | non => exact flat 0 _ (by simp) (by simp) e
    | bl c => exact flat 0 _ (by simp) (by simp) e
    | int i => exact flat 0 _ (by simp) (by simp) e
    | str x => exact flat 0 _ (by simp) (by simp) e
    | _ => cases e
  | succ b ih =>
    intro d e
    cases d with
    | tup ds =>
      have e : (decide (ds.length ≤ k) && ds.all (nf k s b)) = true := e
      simp only [Bool.and_eq_true, decide_eq_true_eq] at e
      obtain ⟨b1, b2, b3, b4⟩ := nf_all ih e.2
      refine ⟨b1, by show deps ds + 1 ≤ b + 1; omega, b3, ?_⟩
      show (tupleText (PyData.shownAll (toPs ds))).length ≤ k * (bnd k s b + 2) + 4 * s + 10
      have h1 := tupleText_le (PyData.shownAll (toPs ds))
      have h2 : ds.length * (bnd k s b + 2) ≤ k * (bnd k s b + 2) := Nat.mul_le_mul_right _ e.1
      omega
    | lst ds =>
      have e : (decide (ds.length ≤ k) && ds.all (nf k s b)) = true := e
      simp only [Bool.and_eq_true, decide_eq_true_eq] at e
      obtain ⟨b1, b2, b3, b4⟩ := nf_all ih e.2
      refine ⟨b1, by show deps ds + 1 ≤ b + 1; omega, b3, ?_⟩
      show (listText (PyData.shownAll (toPs ds))).length ≤ k * (bnd k s b + 2) + 4 * s + 10
      have h1 := listText_le (PyData.shownAll (toPs ds))
      have h2 : ds.length * (bnd k s b + 2) ≤ k * (bnd k s b + 2) := Nat.mul_le_mul_right _ e.1
      omega
    | non => exact flat _ _ (by simp) (by simp) e
    | bl c => exact flat _ _ (by simp) (by simp) e
    | int i => exact flat _ _ (by simp) (by simp) e
    | str x => exact flat _ _ (by simp) (by simp) e
    | _ => cases e
theorem shw_nf {k s b : Nat} {d : D} (e : nf k s b d = true) (hb : b ≤ 60) (hz : bnd k s b ≤ 16777216) : shwOK d = true := by
  obtain ⟨h1, h2, h3, h4⟩ := nf_ok b d e
  unfold shwOK
  rw [h1, Bool.or_true, h3, decide_eq_true (by omega), decide_eq_true (Nat.le_trans h4 (by rw [sizeLine_eq]; exact hz))]
  rfl
theorem shw_str {x : List Nat} {s : Nat} (e : asc s x = true) (hs : s ≤ 1000000) : shwOK (.str x) = true := shw_nf (k := 0) (s := s) (b := 0) e (by omega) (by show 4 * s + 10 ≤ _; omega)
theorem sameR_self (d : D) : sameR d d = true := by unfold sameR; simp
end Mz

/-! what may raise -/
namespace Mz
open PySem L2
section
variable {α : Type}
def wpX (m : M α) (Q : α → Hc → Prop) (E : Str → D → Hc → Prop) (h : Hc) : Prop := match m h with
  | .ok a h' => Q a h'
  | .exc c d h' => E c d h'
  | .bad => False
def wpSX (m : S) (N : L → Hc → Prop) (T : D → Hc → Prop) (E : Str → D → Hc → Prop) (l : L) (h : Hc) : Prop := match m l h with
  | .ok (.nx l') h' => N l' h'
  | .ok (.rt d) h' => T d h'
  | .exc c d _ h' => E c d h'
  | _ => False
variable {Q : α → Hc → Prop} {E : Str → D → Hc → Prop} {h : Hc} {l : L} {N : L → Hc → Prop} {T : D → Hc → Prop} {QD : D → Hc → Prop}
theorem wpX_of {m : M α} (x : wp m Q h) : wpX m Q E h := by
  obtain ⟨a, h', e, q⟩ := wp_elim x
  unfold wpX
  rw [e]; exact q
theorem wpX_mono {m : M α} {Q' : α → Hc → Prop} {E' : Str → D → Hc → Prop} (x : wpX m Q E h) (k : ∀ a h', Q a h' → Q' a h') (k' : ∀ c d h', E c d h' → E' c d h') : wpX m Q' E' h := by
  unfold wpX at x ⊢
  split at x
  · exact k _ _ x
  · exact k' _ _ _ x
  · exact x.elim
theorem wpX_bind {β : Type} {m : M β} {f : β → M α} : wpX (M.bind m f) Q E h = wpX m (fun a h => wpX (f a) Q E h) E h := by
  unfold wpX M.bind
  cases m h <;> rfl
theorem wpSX_bind {m : L → M α} {f : α → S} : wpSX (bindS m f) N T E l h = wpX (m l) (fun a h => wpSX (f a) N T E l h) E h := by
  unfold wpSX wpX bindS
  cases m l h <;> rfl
theorem wpSX_seq {m m' : S} : wpSX (seqS m m') N T E l h = wpSX m (fun l h => wpSX m' N T E l h) T E l h := by
  unfold wpSX seqS
  cases e : m l h with
  | ok f h' => cases f <;> rfl
  | exc c d l' h' => rfl
  | bad => rfl
theorem wpSX_of {m : S} (x : wpS m N T l h) : wpSX m N T E l h := by
  unfold wpS at x
  unfold wpSX
  split at x
  · rename_i e
    rw [e]; exact x
  · rename_i e
    rw [e]; exact x
  · exact x.elim
theorem wpX_body {n nn : Nat} {m : S} {ds : List D} (e : ds.length = n) : wpX (bodyM n nn m ds) QD E h = wpSX m (fun _ h => QD .non h) QD E (ds.map some ++ List.replicate (nn - n) none) h := by
  unfold wpX wpSX bodyM
  rw [if_pos e]
  cases eb : m (ds.map some ++ List.replicate (nn - n) none) h with
  | ok f h' => cases f <;> rfl
  | exc c d l' h' => rfl
  | bad => rfl
theorem wpX_body1 {nn : Nat} {m : S} {a : D} : wpX (bodyM 1 nn m [a]) QD E h = wpSX m (fun _ h => QD .non h) QD E (some a :: List.replicate (nn - 1) none) h := wpX_body rfl
theorem wpX_callX {m : List D → M D} {mr : L → M (List D)} : wpX (callX m mr l) QD E h = wpX (mr l) (fun ds h => wpX (m ds) QD E h) E h := by
  unfold callX
  rw [wpX_bind]
theorem wp_of_wpX {m : M α} (x : wpX m Q (fun _ _ _ => False) h) : wp m Q h := by
  unfold wpX at x
  unfold wp
  split at x
  · rename_i e; rw [e]; exact x
  · exact x.elim
  · exact x.elim
end
variable {Q : D → Hc → Prop} {E : Str → D → Hc → Prop} {h : Hc} {d : D} {l : L}
theorem x_check {d : D} (ok : okD d = true) (q1 : finB d = true → ∀ r, Q .non (h ++ r)) (q2 : finB d = false → shwOK d = true ∧ ∀ r, E "BadFinder" d (h ++ r)) : wpX (m_check_finder [d]) Q E h := by
  unfold m_check_finder b_check_finder
  rw [wpX_body1]
  unfold ifS
  rw [wpSX_bind]
  refine wpX_of ?_
  simp only [wp_notT, wp_toT, wp_callF, wp_consA, wp_nilA, getL_cons0, wp_okM']
  refine w_is_finder ok fun r => ?_
  simp only [truD_bl, gives_some]
  cases c : finB d with
  | true =>
    rw [Bool.not_true, if_neg Bool.false_ne_true]
    exact q1 c r
  | false =>
    rw [Bool.not_false, if_pos rfl]
    obtain ⟨s, k⟩ := q2 c
    show wpSX (raiseS "BadFinder" (getL 0)) _ _ _ _ _
    unfold raiseS
    rw [wpSX_bind]
    refine wpX_of ?_
    simp only [getL_cons0, wp_okM']
    unfold wpSX
    simp only [s, if_true]
    exact k r
theorem x_show {d : D} (ok : okD d = true) (q1 : ∀ ss : List Stp, d = .tup (ss.map Stp.toD) → (∀ s ∈ ss, s.Ok) → ss.length ≤ 4 → finB d = true → ∀ r, Q (.str (ftxt ss)) (h ++ r)) (q2 : finB d = false → shwOK d = true ∧ ∀ r, E "BadFinder" d (h ++ r)) : wpX (m_show_finder [d]) Q E h := by
  unfold m_show_finder b_show_finder
  rw [wpX_body1, wpSX_seq]
  unfold exprS
  rw [wpSX_bind, wpX_callX]
  refine wpX_of ?_
  simp only [wp_consA, wp_nilA, getL_cons0, wp_okM']
  refine x_check ok (fun c r => ?_) q2
  show wpSX (retS _) _ _ _ _ _
  refine wpSX_of ?_
  rw [wpS_ret]
  simp only [wp_callF, wp_consA, wp_nilA, getL_cons0, wp_okM']
  cases d with
  | tup ds =>
    obtain ⟨l1, l2, a1, a2⟩ := fin_parts c
    obtain ⟨ss, rfl, ks⟩ := stps_of a1
    simp only [List.length_map] at l2
    refine w_finder_text ks l2 fun r2 => ?_
    rw [List.append_assoc]
    exact q1 ss rfl ks l2 c (r ++ r2)
  | _ => cases c
theorem x_read_str {x : List Nat} {s : Nat} (a : asc s x = true) (hs : s ≤ 100000) (q1 : ∀ ss : List Stp, finderOf x = .tup (ss.map Stp.toD) → (∀ s ∈ ss, s.Ok) → ss.length ≤ 4 → finB (.tup (ss.map Stp.toD)) = true → ftxt ss = x → ∀ r, Q (.tup (ss.map Stp.toD)) (h ++ r)) (q2 : finderOf x = .non → ∀ r, E "BadText" (.str x) (h ++ r)) : wpX (m_read_finder [.str x]) Q E h := by
  have lx : x.length ≤ 100000 := by
    unfold asc at a
    simp only [Bool.and_eq_true, decide_eq_true_eq] at a
    omega
  unfold m_read_finder b_read_finder
  rw [wpX_body1, wpSX_seq]
  unfold setS
  rw [wpSX_bind]
  refine wpX_of ?_
  simp only [wp_ifV, wp_toT, wp_callV, wp_consA, wp_nilA, getL_cons0, wp_okM', cst_eq]
  show gives (some (D.bl true)) _
  simp only [gives_some, truD_bl, if_true, wp_callF, wp_consA, wp_nilA, getL_cons0, wp_okM']
  refine w_finder_of lx fun r => ?_
  show wpSX (seqS _ _) _ _ _ [some (.str x), some (finderOf x)] (h ++ r)
  rw [wpSX_seq]
  unfold ifS
  rw [wpSX_bind]
  refine wpX_of ?_
  simp only [wp_toTB, wp_op2, getL_1, getL_cons0, wp_okM', cst_eq]
  rcases finderOf_cases x with e | ⟨ss, e, ks, ls, fb, ft⟩
  · rw [e]
    show gives (some (D.bl true)) _
    simp only [gives_some, asB_bl, if_true]
    show wpSX (raiseS "BadText" (getL 0)) _ _ _ _ _
    unfold raiseS
    rw [wpSX_bind]
    refine wpX_of ?_
    simp only [getL_cons0, wp_okM']
    unfold wpSX
    simp only [shw_str a (by omega), if_true]
    exact q2 e r
  · rw [e]
    show gives (some (D.bl false)) _
    simp only [gives_some, asB_bl, Bool.false_eq_true, if_false]
    exact q1 ss e ks ls fb ft r
theorem x_read_other {d : D} {t : String} (ht : tyN h d = some t) (hs : subT t "str" = some false) (sh : shwOK d = true) (q : E "BadText" d h) : wpX (m_read_finder [d]) Q E h := by
  unfold m_read_finder b_read_finder
  rw [wpX_body1, wpSX_seq]
  unfold setS
  rw [wpSX_bind]
  refine wpX_of ?_
  simp only [wp_ifV, wp_toT, wp_callV, wp_consA, wp_nilA, getL_cons0, wp_okM', cst_eq]
  have ei : isiD h [d, .ty "str"] = some (.bl false) := by
    show (tyN h d).bind (fun t => (subT t "str").map fun b => D.bl b) = _
    rw [ht, Option.bind_some, hs]; rfl
  rw [ei]
  simp only [gives_some, truD_bl, Bool.false_eq_true, if_false]
  show wpSX (seqS _ _) _ _ _ [some d, some .non] h
  rw [wpSX_seq]
  unfold ifS
  rw [wpSX_bind]
  refine wpX_of ?_
  simp only [wp_toTB, wp_op2, getL_1, getL_cons0, wp_okM', cst_eq]
  show gives (some (D.bl true)) _
  simp only [gives_some, asB_bl, if_true]
  show wpSX (raiseS "BadText" (getL 0)) _ _ _ _ _
  unfold raiseS
  rw [wpSX_bind]
  refine wpX_of ?_
  simp only [getL_cons0, wp_okM']
  unfold wpSX
  simp only [sh, if_true]
  exact q
end Mz

namespace Mz
open PySem L2
variable {Q : D → Hc → Prop} {E : Str → D → Hc → Prop} {h : Hc} {d : D} {l : L}
theorem wpX_consA {ma : L → M D} {mr : L → M (List D)} {QL : List D → Hc → Prop} : wpX (consA ma mr l) QL E h = wpX (ma l) (fun x h => wpX (mr l) (fun xs h => QL (x :: xs) h) E h) E h := by
  unfold consA
  rw [wpX_bind]
  congr
  funext x h
  rw [wpX_bind]
  rfl
theorem wpX_nilA {QL : List D → Hc → Prop} : wpX (nilA l) QL E h = QL [] h := rfl
theorem isTab_app {n : Nat} {x q : Str} {r : Hc} (e : isTab h n x q = true) : isTab (h ++ r) n x q = true := by
  have hn := isTab_ok e
  have hl : n < h.length := (List.getElem?_eq_some_iff.mp hn).1
  unfold isTab
  rw [List.getElem?_append_left hl, hn]
  simp
theorem wp_caught {n : Nat} {x q : Str} {cs : List Str} {mb : L → M D} (ht : isTab h n x q = true) (w : wpX (mb l) (fun _ h' => Q .non h') (fun c d h' => cs.contains c = true ∧ Q (.ref h'.length) (h' ++ [.err c d])) h) : wp (caughtV n x q cs mb l) Q h := by
  unfold wp caughtV
  rw [if_pos ht]
  unfold wpX at w
  cases e : mb l h with
  | ok d h' => rw [e] at w; exact w
  | exc c d h' =>
    rw [e] at w
    simp only [w.1, if_true]
    exact w.2
  | bad => rw [e] at w; exact w
theorem objE_new {cs : List Str} {c : Str} (hc : cs.contains c = true) : objE cs (h ++ [.err c d]) (.ref h.length) = some (c, d) := by
  unfold objE
  have : (h ++ [O.err c d])[h.length]? = some (.err c d) := by simp
  simp only [this, hc, if_true]
theorem wp_isEV {cs : List Str} {cn : Str} {mo : L → M D} {x : D} (e : mo l = R.ok x) (ob : objE cs h x = some (cn, d)) : wp (isEV cs cn mo l) Q h = Q (.bl true) h := by
  unfold isEV
  simp only [wp_bind, e, wp_okM', wp_rdo, ob, if_true, gives_some]
theorem wp_errV {cs : List Str} {cn : Str} {mo : L → M D} {x : D} (e : mo l = R.ok x) (ob : objE cs h x = some (cn, d)) : wp (errV cs mo l) Q h = Q d h := by
  unfold errV
  simp only [wp_bind, e, wp_okM', wp_rdo, ob, Option.map_some, gives_some]
theorem reprD_ok (s : shwOK d = true) : reprD h [d] = some (.rpr d) := by
  show (if shwOK d then some (D.rpr d) else none) = _
  rw [if_pos s]
theorem eqRD_ok {a b : D} (e : a = b) : eqRD h (.rpr a) (.rpr b) = some (.bl true) := by
  show some (D.bl (sameR a b)) = _
  rw [e, sameR_self]
theorem neRD_ok {a b : D} (e : a = b) : neRD h (.rpr a) (.rpr b) = some (.bl false) := by
  show some (D.bl (!sameR a b)) = _
  rw [e, sameR_self]; rfl
theorem isNotD_ref {n : Nat} : isNotD h (.ref n) .non = some (.bl true) := rfl
theorem isNotD_non : isNotD h .non .non = some (.bl false) := rfl
theorem toDs_ok (ss : List Stp) : okD (.tup (ss.map Stp.toD)) = true := okD_of fun d hd => by
  obtain ⟨s, _, rfl⟩ := List.mem_map.mp hd
  exact toD_ok s
theorem set_app {r : Hc} {y z : O} : (h ++ [y] ++ r).set h.length z = h ++ [z] ++ r := by
  rw [List.append_assoc, List.set_append_right _ _ (Nat.le_refl _)]
  simp
theorem objL_mid {r : Hc} {y : List D} : objL (h ++ [.lst y] ++ r) h.length = some y := by
  unfold objL
  rw [List.append_assoc, List.getElem?_append_right (Nat.le_refl _)]
  simp
theorem sp_is_read {x : List Nat} {s : Nat} (a : asc s x = true) (hs : s ≤ 100000) (ht : isTab h 0 "_law_is_read" "_law_is_read.<locals>.<lambda>" = true) (q : ∀ r, Q (.bl true) (h ++ r)) : wp (m_law_is_read [.str x]) Q h := by
  have sx : shwOK (.str x) = true := shw_str a (by omega)
  unfold m_law_is_read b_law_is_read
  rw [wp_body1, show List.replicate (3 - 1) (none : Option D) = [none, none] from rfl, wpS_seq, wpS_set, wp_lstN]
  simp only [wp_nilA, List.length_nil, Nat.zero_le, true_and, setL_1]
  rw [wpS_seq, wpS_set]
  refine wp_caught (isTab_app ht) ?_
  unfold appV
  rw [wpX_bind]
  refine wpX_of ?_
  simp only [getL_1, getL_cons0, wp_okM']
  rw [wpX_bind]
  refine wpX_of ?_
  rw [wp_rdo, refL_ref, objL_new]
  simp only [Option.map_some, gives_some]
  rw [wpX_bind]
  rw [wpX_consA, wpX_callX]
  refine wpX_of ?_
  simp only [wp_consA, wp_nilA, getL_cons0, wp_okM']
  refine x_read_str a hs (fun ss e ks ls fb ft r => ?_) fun e r => ?_
  · rw [wpX_nilA]
    refine wpX_of ?_
    rw [wp_one, wp_appH objL_mid (by simp only [List.length_nil]; exact Nat.lt_of_lt_of_le (by omega : 0 < 1) (sizeK (by decide)))]
    rw [set_app]
    simp only [List.nil_append, setL_2]
    rw [wpS_seq, wpS_if]
    simp only [wp_toTB, wp_op2, getL_2, getL_cons0, wp_okM', cst_eq, isNotD_non, gives_some, asB_bl]
    rw [if_neg Bool.false_ne_true, wpS_next, wpS_ret, wp_andV, wp_callF]
    simp only [wp_consA, wp_nilA, wp_op2, getL_1, getL_cons0, wp_okM', cst_eq]
    have ix0 : ∀ r' : Hc, ixD (h ++ [.lst [.tup (ss.map Stp.toD)]] ++ r') (.ref h.length) (.int 0) = some (.tup (ss.map Stp.toD)) := fun r' => by
      rw [ixD_ref objL_mid]
      exact (atI_at (xs := [D.tup (ss.map Stp.toD)]) (i := 0) (by simp)).trans rfl
    rw [ix0]
    simp only [gives_some]
    refine w_is_finder (toDs_ok ss) fun r2 => ?_
    rw [fb]
    simp only [truD_bl, gives_some, if_true]
    rw [wp_callV]
    refine wp_of_wpX ?_
    rw [wpX_consA, wpX_callX]
    refine wpX_of ?_
    simp only [wp_consA, wp_nilA, wp_op2, getL_1, getL_cons0, wp_okM', cst_eq]
    rw [List.append_assoc (h ++ [O.lst [D.tup (ss.map Stp.toD)]]), ix0]
    simp only [gives_some]
    refine x_show (toDs_ok ss) (fun ss' e' ks' ls' _ r3 => ?_) fun z => ?_
    · have ef : ftxt ss' = x := by
        have e2 : (ss'.map Stp.toD).map tTx = (ss.map Stp.toD).map tTx := by
          have := D.tup.inj e'
          rw [this]
        rw [tTx_map, tTx_map] at e2
        unfold ftxt at ft ⊢
        rw [e2, ft]
      rw [ef]
      rw [wpX_nilA]
      simp only [reprD_ok sx, gives_some, wp_callV, wp_consA, wp_nilA, getL_cons0, wp_okM', reprD_ok sx, gives_some, eqRD_ok rfl]
      simp only [List.append_assoc]
      exact q _
    · rw [fb] at z; cases z
  · refine ⟨by decide +kernel, ?_⟩
    simp only [setL_2]
    rw [wpS_seq, wpS_if]
    simp only [wp_toTB, wp_op2, getL_2, getL_cons0, wp_okM', cst_eq, isNotD_ref, gives_some, asB_bl]
    rw [if_pos trivial, wpS_ret, wp_andV]
    have ob := objE_new (h := h ++ [O.lst []] ++ r) (d := .str x) (cs := errNames) (c := "BadText") (by decide +kernel)
    rw [wp_isEV rfl ob]
    simp only [truD_bl, gives_some, if_true, wp_op2, wp_callV, wp_consA, wp_nilA]
    rw [wp_errV rfl ob]
    simp only [reprD_ok sx, gives_some, getL_cons0, wp_okM', eqRD_ok rfl]
    simp only [List.append_assoc]
    exact q _
end Mz

/-! a drawn finder is one -/
namespace Mz
open PySem L2
variable {Q : D → Hc → Prop} {h : Hc} {d : D}
theorem hole_mk {y : List Nat} (e : nameS y = true) : soughtS ([123] ++ y ++ [125]) = true := by
  have e2 : cut ([123] ++ y ++ [125]) (some (-1)) none = [125] := by
    simp [cut, HT.sIx]
    rw [show ((-1 : Int) + ((y.length : Int) + 1 + 1)).toNat = y.length + 1 by omega]
    simp
  have e3 : cut ([123] ++ y ++ [125]) (some 1) (some (-1)) = y := by
    simp [cut, HT.sIx]
    rw [show ((-1 : Int) + ((y.length : Int) + 1 + 1)).toNat = y.length + 1 by omega]
    simp
  have : holeS ([123] ++ y ++ [125]) = true := by
    unfold holeS
    rw [cut_t1, e2, e3, e]
    rfl
  show (nameS _ || fixedS _ || holeS _) = true
  rw [this, Bool.or_true]
def Sx (x : D) : Prop := ∃ t, x = .str t ∧ soughtS t = true
theorem Sx.flat {x : D} (k : Sx x) : flatD x = true := by
  obtain ⟨t, rfl, _⟩ := k
  rfl
structure At (spot : Int) (xs : List D) (j : Nat) (s : Stp) : Prop where
  ok : s.Ok
  first : j = 0 → s.ax ≠ [110, 101, 120, 116]
  nth : (j : Int) ≠ spot → s.nth = 0
  has : 2 ≤ j → s.hs = none
  tx : ∀ t ∈ s.tx, D.str t ∈ xs
  hx : ∀ a b, s.hs = some (a, b) → D.str b ∈ xs
theorem rngs_succ {lo : Int} {n : Nat} : rngs lo (n + 1) = .int lo :: rngs (lo + 1) n := by
  unfold rngs
  rw [List.range_succ_eq_map, List.map_cons, List.map_map]
  simp only [Int.ofNat_zero, Int.add_zero]
  congr 1
  simp
  intro a _
  omega
theorem filter_lt {p : D → Bool} {m : Nat} : ∀ {ds : List D}, (∀ j d, ds[j]? = some d → p d = true → j < m) → (ds.filter p).length ≤ m := by
  intro ds
  induction ds generalizing m with
  | nil => intro _; simp
  | cons d ds ih =>
    intro k
    cases m with
    | zero =>
      have hn : ∀ x ∈ d :: ds, ¬ (p x = true) := fun x hx hp => by
        obtain ⟨j, hj⟩ := List.getElem?_of_mem hx
        exact absurd (k j x hj hp) (by omega)
      rw [List.filter_eq_nil_iff.mpr hn]
      simp
    | succ m =>
      have := ih (m := m) fun j e he hp => by
        have := k (j + 1) e (by simpa using he) hp
        omega
      rw [List.filter_cons]
      split
      · simp; omega
      · omega
theorem filter_one {p : D → Bool} {k : Int} : ∀ {ds : List D} (o : Nat), (∀ j d, ds[j]? = some d → p d = true → ((o + j : Nat) : Int) = k) → (ds.filter p).length ≤ 1 := by
  intro ds
  induction ds with
  | nil => intro _ _; simp
  | cons d ds ih =>
    intro o h
    rw [List.filter_cons]
    split
    · rename_i hp
      have h0 := h 0 d rfl hp
      have hn : ∀ x ∈ ds, ¬ (p x = true) := fun x hx hq => by
        obtain ⟨j, hj⟩ := List.getElem?_of_mem hx
        have := h (j + 1) x (by simpa using hj) hq
        omega
      rw [List.filter_eq_nil_iff.mpr hn]
      simp
    · refine ih (o + 1) fun j e he hp => ?_
      have := h (j + 1) e (by simpa using he) hp
      omega
theorem sorted_len {zs xs : List (List Nat)} (hp : zs.Pairwise (· < ·)) (hs : ∀ z ∈ zs, z ∈ xs) : zs.length ≤ xs.length := by
  have nd : zs.Nodup := hp.imp fun h e => by
    subst e
    exact absurd h (List.lt_irrefl _)
  exact nodup_len zs xs nd hs
theorem sx_list : ∀ {xs : List D}, (∀ x ∈ xs, Sx x) → ∃ xl : List (List Nat), xs = xl.map D.str
  | [], _ => ⟨[], rfl⟩
  | x :: xs, k => by
    obtain ⟨t, rfl, _⟩ := k x (by simp)
    obtain ⟨xl, rfl⟩ := sx_list (xs := xs) fun y hy => k y (List.mem_cons_of_mem _ hy)
    exact ⟨t :: xl, rfl⟩
theorem finB_of {ss : List Stp} {xs : List D} {spot : Int} (lx : xs.length = 3) (sx : ∀ x ∈ xs, Sx x) (l1 : 1 ≤ ss.length) (l4 : ss.length ≤ 4) (k : ∀ j s, ss[j]? = some s → At spot xs j s) : finB (.tup (ss.map Stp.toD)) = true := by
  have kk : ∀ s ∈ ss, s.Ok := fun s hs => by
    obtain ⟨j, hj⟩ := List.getElem?_of_mem hs
    exact (k j s hj).ok
  have h1 : (ss.map Stp.toD).all stepB = true := List.all_eq_true.mpr fun d hd => by
    obtain ⟨s, hs, rfl⟩ := List.mem_map.mp hd
    exact stepB_toD (kk s hs)
  have h2 : nextP (ss.map Stp.toD) = false := by
    match ss, l1, k with
    | s :: r, _, k =>
      have := (k 0 s rfl).first rfl
      show eqv (.str s.ax) (.str [110, 101, 120, 116]) = false
      show (s.ax == [110, 101, 120, 116]) = false
      simpa using this
  have h3 : ((ss.map Stp.toD).filter nthP).length ≤ 1 := filter_one (k := spot) 0 fun j d he hp => by
    rw [List.getElem?_map] at he
    obtain ⟨s, hs, rfl⟩ := Option.map_eq_some_iff.mp he
    have hp : decide ((0 : Int) < (s.nth : Nat)) = true := hp
    have hp := of_decide_eq_true hp
    rw [Nat.zero_add]
    by_cases z : (j : Int) = spot
    · exact z
    · have := (k j s hs).nth z
      omega
  have h4 : ((ss.map Stp.toD).filter hasP).length ≤ 2 := filter_lt fun j d he hp => by
    rw [List.getElem?_map] at he
    obtain ⟨s, hs, rfl⟩ := Option.map_eq_some_iff.mp he
    have hp : (!eqv (.tup s.hsD) (.tup [])) = true := hp
    by_cases z : 2 ≤ j
    · have := (k j s hs).has z
      unfold Stp.hsD at hp
      rw [this] at hp
      cases hp
    · omega
  have h5 : (sortU (strsD ((ss.map Stp.toD).flatMap textsOf))).length ≤ 3 := by
    obtain ⟨zs, ez, _⟩ := texts_all (ss.map Stp.toD) fun d hd => by
      obtain ⟨s, hs, rfl⟩ := List.mem_map.mp hd
      obtain ⟨t1, t2⟩ := toD_ok s
      refine ⟨?_, stepB_toD (kk s hs)⟩
      unfold okD
      rw [t1, decide_eq_true (by omega)]; rfl
    obtain ⟨xl, rfl⟩ := sx_list sx
    have e1 : strsD ((ss.map Stp.toD).flatMap textsOf) = zs := by
      unfold strsD
      rw [ez, txs_map]; rfl
    rw [e1]
    have : (sortU zs).length ≤ xl.length := sorted_len (sortU_sorted zs) fun z hz => by
      have hz := (mem_sortU z zs).mp hz
      have hm : D.str z ∈ (ss.map Stp.toD).flatMap textsOf := by rw [ez]; exact List.mem_map.mpr ⟨z, hz, rfl⟩
      obtain ⟨d, hd, hm⟩ := List.mem_flatMap.mp hm
      obtain ⟨s, hs, rfl⟩ := List.mem_map.mp hd
      obtain ⟨j, hj⟩ := List.getElem?_of_mem hs
      have a := k j s hj
      have hm : D.str z ∈ s.tx.map D.str ++ cut s.hsD (some 1) none := hm
      have inx : D.str z ∈ xl.map D.str := by
        rcases List.mem_append.mp hm with hm | hm
        · obtain ⟨t, ht, e⟩ := List.mem_map.mp hm
          cases e
          exact a.tx _ ht
        · rw [cut_1] at hm
          unfold Stp.hsD at hm
          cases ho : s.hs with
          | none => rw [ho] at hm; simp at hm
          | some p =>
            obtain ⟨u, v⟩ := p
            rw [ho] at hm
            have e : z = v := by simpa using hm
            subst e
            exact a.hx u z ho
      obtain ⟨t, ht, e⟩ := List.mem_map.mp inx
      cases e
      exact ht
    simp only [List.length_map] at lx
    omega
  show (decide ((1 : Int) ≤ ((ss.map Stp.toD).length : Nat)) && decide ((((ss.map Stp.toD).length : Nat) : Int) ≤ 4) && (ss.map Stp.toD).all stepB && finT (ss.map Stp.toD)) = true
  unfold finT
  rw [h1, h2, decide_eq_true (by rw [List.length_map]; omega), decide_eq_true (by rw [List.length_map]; omega), decide_eq_true (by omega), decide_eq_true (by omega), decide_eq_true (by omega)]
  rfl
end Mz

namespace Mz
open PySem L2
variable {Q : D → Hc → Prop} {h : Hc} {d : D}
def InvA (h0 : Hc) (n t f c : Nat) (lo st nt : D) (rest : List D) (l : L) (h : Hc) : Prop := ∃ x3 xs, rest.length ≤ 3 ∧ l = [some (.ref n), some lo, some st, x3, none, none, none, some (.ref t), some (.ref f), some nt, none, none, none, none, none, none] ∧ objL h t = some xs ∧ xs.length + rest.length = 3 ∧ (∀ x ∈ xs, Sx x) ∧ objL h f = some [] ∧ Pot h n (c + 4 - rest.length) ∧ Ev n h0 h
def InvB (h0 : Hc) (n t f c : Nat) (lo st nt many spot : D) (sp : Int) (N : Nat) (xs : List D) (rest : List D) (l : L) (h : Hc) : Prop := ∃ x3 x6 x10 x11 x12 x13 x14, ∃ ss : List Stp, rest = rngs (ss.length : Nat) (N - ss.length) ∧ ss.length ≤ N ∧ l = [some (.ref n), some lo, some st, x3, some many, some spot, x6, some (.ref t), some (.ref f), some nt, x10, x11, x12, x13, x14, none] ∧ objL h t = some xs ∧ objL h f = some (ss.map Stp.toD) ∧ (∀ j s, ss[j]? = some s → At sp xs j s) ∧ Pot h n (c + 38 - 8 * rest.length) ∧ Ev n h0 h
theorem sp_finder {n c : Nat} {ls : List (List Nat)} (p : Pot h n c) (lim : c + 40 ≤ LIM) (l1 : ls.length ≤ 2) (l2n : ∀ x ∈ ls, nameS x = true) (q : ∀ (ss : List Stp) h', (∀ s ∈ ss, s.Ok) → 1 ≤ ss.length → ss.length ≤ 4 → finB (.tup (ss.map Stp.toD)) = true → Ev n h h' → Pot h' n (c + 40) → Q (.tup (ss.map Stp.toD)) h') : wp (m_law_finder [.ref n, .lst (ls.map D.str), .int 4]) Q h := by
  have sb := sizeBig
  have l2 : ∀ x ∈ ls, x.length ≤ 10 := fun x hx => by have := (nameS_len (l2n x hx)).1; omega
  have s0 : 0 ≤ PySem.sizeLine := by omega
  have s1 : 1 ≤ PySem.sizeLine := by omega
  have s2 : 2 ≤ PySem.sizeLine := by omega
  have s3 : 3 ≤ PySem.sizeLine := by omega
  have s4 : 4 ≤ PySem.sizeLine := by omega
  have s5 : 5 ≤ PySem.sizeLine := by omega
  have s6 : 6 ≤ PySem.sizeLine := by omega
  unfold m_law_finder b_law_finder
  rw [wp_body3, show List.replicate (16 - 3) (none : Option D) = [none, none, none, none, none, none, none, none, none, none, none, none, none] from rfl, wpS_seq, wpS_par3]
  simp only [wp_consA, wp_lstN, wp_nilA, wp_callF, getL_cons0, wp_okM', wp_lstV, cst_eq, List.length_nil, List.length_cons, Nat.zero_add, Nat.reduceAdd, s0, s5, true_and]
  have pl := p.lt
  refine sp_pick (p.app.app) (by omega) (by simp) (by simp) fun nt h1 mnt ev1 p1 => ?_
  obtain ⟨kn, hkn, rfl⟩ : ∃ kn : Nat, kn ≤ 3 ∧ nt = .int (kn : Nat) := by
    simp only [List.mem_cons, List.not_mem_nil, or_false] at mnt
    rcases mnt with rfl | rfl | rfl | rfl | rfl
    · exact ⟨0, by omega, rfl⟩
    · exact ⟨0, by omega, rfl⟩
    · exact ⟨1, by omega, rfl⟩
    · exact ⟨2, by omega, rfl⟩
    · exact ⟨3, by omega, rfl⟩
  have lt1 : (h ++ [O.lst []]).length = h.length + 1 := by simp
  rw [lt1]
  have ot : objL h1 h.length = some [] := ev1.objL (by omega) (objL_app objL_at)
  have of1 : objL h1 (h.length + 1) = some [] := ev1.objL (by omega) (by rw [← lt1]; exact objL_at)
  have evh : Ev n h h1 := (Ev.app.trans Ev.app).trans ev1
  simp only [setL_7, setL_8, setL_9]
  rw [wpS_seq]
  refine wpS_for (InvA h n h.length (h.length + 1) c (.lst (ls.map D.str)) (.int 4) (.int (kn : Nat))) (ds := [.int 0, .int 1, .int 2]) (h' := h1) rfl ⟨none, [], by simp, rfl, ot, rfl, by simp, of1, by simpa using p1, evh⟩ ?_ ?_
  · rintro d rest l h2 ⟨x3, xs, hr, rfl, et, le, fx, ef, p2, ev2⟩
    simp only [List.length_cons] at hr le p2
    refine ⟨_, rfl, ?_⟩
    simp only [setL_3]
    rw [wpS_expr, wp_appV, getL_7, getL_cons0, wp_okM', refL_ref, et]
    simp only [Option.map_some, gives_some, wp_consA, wp_callF, wp_nilA, getL_cons0, wp_okM', wp_op2]
    rw [lc_items (xs := ls.map D.str) (fun d => match d with | .str x => .str ([123] ++ x ++ [125]) | d => d) rfl (fun x hx => by
      obtain ⟨y, hy, rfl⟩ := List.mem_map.mp hx
      have ly := l2 y hy
      have z1 : [123].length + y.length ≤ PySem.sizeLine := by simp; omega
      have z2 : ([123] ++ y).length + [125].length ≤ PySem.sizeLine := by simp; omega
      have a1 : addD h2 (.str [123]) (.str y) = some (.str ([123] ++ y)) := by unfold addD; simp only [z1, if_true]
      have a2 : addD h2 (.str ([123] ++ y)) (.str [125]) = some (.str ([123] ++ y ++ [125])) := by unfold addD; simp only [z2, if_true]
      exact ok_of_wp (by
        simp only [wipeL, setL_15, wp_op2, cst_eq, wp_okM', getL_15, getL_cons0, a1, gives_some, a2]
        exact ⟨by trivial, by trivial⟩))]
    simp only [wp_lstV, wp_consA, wp_nilA, cst_eq, wp_okM', List.length_cons, List.length_nil, Nat.zero_add, Nat.reduceAdd, s4, true_and]
    have ad : ∀ xs ys : List D, xs.length + ys.length ≤ PySem.sizeLine → addD h2 (.lst xs) (.lst ys) = some (.lst (xs ++ ys)) := fun xs ys z => by unfold addD; simp only [z, if_true]
    rw [ad _ _ (by simp; omega), gives_some]
    refine sp_pick p2 (by omega) (by simp) (by simp; omega) fun y h3 my ev3 p3 => ?_
    have fy : Sx y := by
      rcases List.mem_append.mp my with e | e
      · obtain ⟨z, hz, rfl⟩ := List.mem_map.mp e
        obtain ⟨z, hz2, rfl⟩ := List.mem_map.mp hz
        exact ⟨_, rfl, hole_mk (l2n z hz2)⟩
      · simp only [List.mem_cons, List.not_mem_nil, or_false] at e
        rcases e with rfl | rfl | rfl | rfl <;> exact ⟨_, rfl, by decide +kernel⟩
    rw [wp_one, wp_appH (ev3.objL (by omega) et) (by omega)]
    refine ⟨some d, xs ++ [y], by omega, rfl, objL_set (ev3.objL (by omega) et), by simp; omega, fun x hx => ?_, objL_ne (ev3.objL (by omega) ef) (by omega), (p3.set (by omega)).mono (by omega), (ev2.trans ev3).set' (by omega)⟩
    rcases List.mem_append.mp hx with e | e
    · exact fx x e
    · rw [List.mem_singleton.mp e]; exact fy
  · rintro l h2 ⟨x3, xs, hr, rfl, et, le, fx, ef, p2, ev2⟩
    simp only [List.length_nil, Nat.add_zero, Nat.sub_zero] at le p2
    rw [wpS_seq, wpS_set]
    simp only [wp_op2, cst_eq, wp_okM', wp_callF, wp_consA, wp_nilA, getL_cons0, getL_2]
    refine sp_take p2 (by omega) (by decide) (by decide) fun r h3 r0 r1 ev3 p3 => ?_
    simp only [addD_int, gives_some, setL_4]
    rw [wpS_seq, wpS_set]
    simp only [wp_callF, wp_consA, wp_nilA, getL_cons0, getL_4, wp_okM']
    refine sp_take p3 (by omega) (by omega) (by omega) fun s h4 sp0 sp1 ev4 p4 => ?_
    simp only [setL_5]
    rw [wpS_seq]
    have er : rng1 [.int (1 + r)] = some (rngs 0 (1 + r).toNat) := by
      show (if _ then _ else _) = _
      rw [if_pos ⟨by omega, by omega, by omega⟩]
    have ev24 : Ev n h h4 := (ev2.trans ev3).trans ev4
    refine wpS_for (InvB h n h.length (h.length + 1) c (.lst (ls.map D.str)) (.int 4) (.int (kn : Nat)) (.int (1 + r)) (.int s) s (1 + r).toNat xs) (ds := rngs 0 (1 + r).toNat) (h' := h4) ?_ ⟨x3, none, none, none, none, none, none, [], rfl, by simp, rfl, (ev3.trans ev4).objL (by omega) et, (ev3.trans ev4).objL (by omega) ef, by simp, ?_, ev24⟩ ?_ ?_
    · exact ok_of_wp (by
        simp only [wp_argsV, wp_consA, wp_nilA, getL_4, getL_cons0, wp_okM', er, gives_some]
        exact ⟨by trivial, by trivial⟩)
    · exact p4.mono (by simp [rngs]; omega)
    · rintro d rest l h5 ⟨x3, x6, x10, x11, x12, x13, x14, ss, hrest, lss, rfl, et5, ef5, ats, p5, ev5⟩
      have hN : (1 + r).toNat ≤ 4 := by omega
      obtain ⟨m, hm⟩ : ∃ m, (1 + r).toNat - ss.length = m + 1 := by
        cases z : (1 + r).toNat - ss.length with
        | zero => rw [z] at hrest; cases hrest
        | succ m => exact ⟨m, rfl⟩
      rw [hm, rngs_succ] at hrest
      simp only [List.cons.injEq] at hrest
      obtain ⟨rfl, hrest⟩ := hrest
      have hlr : rest.length = m := by rw [hrest]; simp [rngs]
      have hr : rest.length + 1 ≤ 4 := by omega
      simp only [List.length_cons] at p5
      generalize hi : ((ss.length : Nat) : Int) = i at hrest
      refine ⟨_, rfl, ?_⟩
      simp only [setL_6]
      have lx : xs.length = 3 := le
      -- axis
      rw [wpS_seq, wpS_set]
      simp only [wp_callF, wp_consA, wp_nilA, getL_cons0, wp_okM', wp_ifV, wp_toTB, wp_op2, getL_6, cst_eq, gtD_int, gives_some, asB_bl, wp_lstV, List.length_cons, List.length_nil, Nat.zero_add, Nat.reduceAdd, s3, s4, true_and]
      have axis : ∀ (K : D → Hc → Prop), (∀ a h6, (∃ t, a = .str t ∧ axisB t = true ∧ (ss.length = 0 → t ≠ [110, 101, 120, 116])) → Ev n h5 h6 → Pot h6 n (c + 38 - 8 * (rest.length + 1) + 1) → K a h6) → (if decide (0 < i) = true then wp (m_law_of [.ref n, .lst [.str [98, 101, 108, 111, 119], .str [98, 101, 108, 111, 119], .str [99, 104, 105, 108, 100], .str [110, 101, 120, 116]]]) K h5 else wp (m_law_of [.ref n, .lst [.str [98, 101, 108, 111, 119], .str [98, 101, 108, 111, 119], .str [99, 104, 105, 108, 100]]]) K h5) := fun K k => by
        split
        · rename_i z
          refine sp_pick p5 (by omega) (by simp) (by simp) fun a h6 ma ev6 p6 => k a h6 ?_ ev6 p6
          have z := of_decide_eq_true z
          simp only [List.mem_cons, List.not_mem_nil, or_false] at ma
          rcases ma with rfl | rfl | rfl | rfl <;> exact ⟨_, rfl, by decide +kernel, fun z0 => by omega⟩
        · refine sp_pick p5 (by omega) (by simp) (by simp) fun a h6 ma ev6 p6 => k a h6 ?_ ev6 p6
          simp only [List.mem_cons, List.not_mem_nil, or_false] at ma
          rcases ma with rfl | rfl | rfl <;> exact ⟨_, rfl, by decide +kernel, fun _ => by decide⟩
      refine axis _ fun ax h6 fax ev6 p6 => ?_
      obtain ⟨axs, rfl, ax1, ax2⟩ := fax
      -- marks
      simp only [setL_10]
      rw [wpS_seq, wpS_set]
      simp only [wp_callF, wp_consA, wp_nilA, getL_cons0, wp_okM', wp_tupV, cst_eq, wp_lstV, List.length_cons, List.length_nil, Nat.zero_add, Nat.reduceAdd, s0, s1, s2, s6, true_and]
      refine sp_pick p6 (by omega) (by simp) (by simp) fun mk h7 mmk ev7 p7 => ?_
      obtain ⟨mks, rfl, wmk⟩ : ∃ mks : List (List Nat), mk = .tup (mks.map D.str) ∧ marksB (mks.map D.str) = true := by
        simp only [List.mem_cons, List.not_mem_nil, or_false] at mmk
        rcases mmk with rfl | rfl | rfl | rfl | rfl | rfl
        · exact ⟨[], rfl, by decide +kernel⟩
        · exact ⟨[], rfl, by decide +kernel⟩
        · exact ⟨[], rfl, by decide +kernel⟩
        · exact ⟨[[114, 101, 100]], rfl, by decide +kernel⟩
        · exact ⟨[[100, 111, 110, 101]], rfl, by decide +kernel⟩
        · exact ⟨[[98, 105, 103], [114, 101, 100]], rfl, by decide +kernel⟩
      simp only [setL_11]
      -- tag, text
      rw [wpS_seq, wpS_par]
      simp only [wp_callF, wp_consA, wp_nilA, getL_cons0, getL_7, wp_okM', cst_eq, wp_lstV, List.length_cons, List.length_nil, Nat.zero_add, Nat.reduceAdd, s4, true_and]
      refine sp_pick p7 (by omega) (by simp) (by simp) fun tg h8 mtg ev8 p8 => ?_
      obtain ⟨tgs, rfl, ftg⟩ : ∃ t, tg = .str t ∧ tagS t = true := by
        simp only [List.mem_cons, List.not_mem_nil, or_false] at mtg
        rcases mtg with rfl | rfl | rfl | rfl <;> exact ⟨_, rfl, by decide +kernel⟩
      have ev58 : Ev n h5 h8 := (ev6.trans ev7).trans ev8
      refine sp_sought p8 (by omega) (ev58.objL (by omega) et5) (by omega) (by omega) (by omega) fun tx h9 ltx mtx ev9 p9 => ?_
      obtain ⟨txl, rfl⟩ := sx_list fun x hx => fx x (mtx x hx)
      simp only [setL_13, setL_14]
      have ev59 : Ev n h5 h9 := ev58.trans ev9
      -- has
      rw [wpS_seq, wpS_set]
      simp only [wp_ifV, wp_toTB, wp_op2, getL_6, getL_cons0, wp_okM', cst_eq, ltD_int, gives_some, asB_bl, wp_tupV, wp_consA, wp_nilA, wp_callF, wp_lstV, getL_7, List.length_cons, List.length_nil, Nat.zero_add, Nat.reduceAdd, s0, s3, true_and]
      have cont : ∀ (hs : List D) (ho : Option (List Nat × List Nat)) (h10 : Hc), ((∃ a b, ho = some (a, b) ∧ hs = [.str a, .str b] ∧ tagS a = true ∧ D.str b ∈ xs ∧ ss.length < 2) ∨ (ho = none ∧ hs.length ≤ 1)) → Ev n h9 h10 → Pot h10 n (c + 38 - 8 * rest.length) →
          wpS (exprS (appV (getL 8) (consA (tupV (consA (getL 10) (consA (getL 13) (consA (getL 11) (consA (getL 14) (consA (ifV (toTB (op2 eqD (callV lenD (consA (getL 12) (nilA))) (cst (.int 2)))) (getL 12) (tupV (nilA))) (consA (ifV (toTB (op2 eqD (getL 6) (getL 5))) (getL 9) (cst (.int 0))) (nilA)))))))) (nilA))))
            (InvB h n h.length (h.length + 1) c (.lst (ls.map D.str)) (.int 4) (.int (kn : Nat)) (.int (1 + r)) (.int s) s (1 + r).toNat xs rest) Q
            [some (.ref n), some (.lst (ls.map D.str)), some (.int 4), x3, some (.int (1 + r)), some (.int s), some (.int i), some (.ref h.length), some (.ref (h.length + 1)), some (.int (kn : Nat)), some (.str axs), some (.tup (mks.map D.str)), some (.tup hs), some (.str tgs), some (.tup (txl.map D.str)), none] h10 := fun hs ho h10 hho ev10 p10 => by
        have ev510 : Ev n h5 h10 := ev59.trans ev10
        have ef10 := ev510.objL (by omega) ef5
        have fin : ∀ (kk : Nat), kk ≤ 3 → (i ≠ s → kk = 0) → wp (appH (h.length + 1) (.tup [.str axs, .str tgs, .tup (mks.map D.str), .tup (txl.map D.str), .tup (Stp.hsD ⟨axs, tgs, mks, txl, ho, kk⟩), .int (kk : Nat)])) (fun _ hh => InvB h n h.length (h.length + 1) c (.lst (ls.map D.str)) (.int 4) (.int (kn : Nat)) (.int (1 + r)) (.int s) s (1 + r).toNat xs rest
            [some (.ref n), some (.lst (ls.map D.str)), some (.int 4), x3, some (.int (1 + r)), some (.int s), some (.int i), some (.ref h.length), some (.ref (h.length + 1)), some (.int (kn : Nat)), some (.str axs), some (.tup (mks.map D.str)), some (.tup hs), some (.str tgs), some (.tup (txl.map D.str)), none] hh) h10 := fun kk hk1 hk2 => by
          rw [wp_appH ef10 (by rw [List.length_map]; omega)]
          refine ⟨x3, some (.int i), some (.str axs), some (.tup (mks.map D.str)), some (.tup hs), some (.str tgs), some (.tup (txl.map D.str)), ss ++ [⟨axs, tgs, mks, txl, ho, kk⟩], ?_, by simp; omega, rfl, objL_ne (ev510.objL (by omega) et5) (by omega), by rw [List.map_append]; exact objL_set ef10, fun j s' hj => ?_, p10.set (by omega), (ev5.trans ev510).set' (by omega)⟩
          · rw [hrest, List.length_append, List.length_cons, List.length_nil, ← hi]
            congr 1
            omega
          · by_cases z : j < ss.length
            · rw [List.getElem?_append_left z] at hj
              exact ats j s' hj
            · have hl := (List.getElem?_eq_some_iff.mp hj).1
              simp only [List.length_append, List.length_cons, List.length_nil] at hl
              have ej : j = ss.length := by omega
              subst ej
              rw [List.getElem?_append_right (Nat.le_refl _)] at hj
              simp at hj
              subst hj
              refine ⟨⟨ax1, ftg, wmk, ⟨by simpa using ltx, fun x hx => ?_⟩, fun a b e => ?_, hk1⟩, fun z => ax2 z, fun z => hk2 (by rw [← hi]; exact z), fun z => ?_, fun t ht => mtx _ (List.mem_map.mpr ⟨t, ht, rfl⟩), fun a b e => ?_⟩
              · obtain ⟨t, e, q2⟩ := fx _ (mtx _ (List.mem_map.mpr ⟨x, hx, rfl⟩))
                cases e
                exact q2
              · rcases hho with ⟨a', b', e1, _, e3, e4, _⟩ | ⟨e1, _⟩
                · rw [show ho = some (a, b) from e] at e1
                  cases e1
                  obtain ⟨t, et, q2⟩ := fx _ e4
                  cases et
                  exact ⟨e3, q2⟩
                · rw [show ho = some (a, b) from e] at e1; cases e1
              · rcases hho with ⟨a', b', e1, _, _, _, e5⟩ | ⟨e1, _⟩
                · omega
                · exact e1
              · rcases hho with ⟨a', b', e1, _, e3, e4, _⟩ | ⟨e1, _⟩
                · rw [show ho = some (a, b) from e] at e1
                  cases e1
                  exact e4
                · rw [show ho = some (a, b) from e] at e1; cases e1
        rw [wpS_expr, wp_appV, getL_8, getL_cons0, wp_okM', refL_ref, ef10]
        simp only [Option.map_some, gives_some, wp_consA, wp_nilA, wp_tupV, getL_10, getL_11, getL_12, getL_13, getL_14, getL_9, getL_6, getL_5, getL_cons0, wp_okM', wp_ifV, wp_toTB, wp_op2, wp_callV, lenD_tup, cst_eq, eqD_int, asB_bl, List.length_nil, s0, true_and, List.length_cons, Nat.zero_add, Nat.reduceAdd, s6, wp_one]
        rcases hho with ⟨a, b, rfl, rfl, _⟩ | ⟨rfl, lh⟩
        · rw [show ((([D.str a, D.str b].length : Nat) : Int) == 2) = true from rfl]
          simp only [if_true]
          split
          · exact fin kn hkn (fun z => absurd (by simpa using ‹(i == s) = true›) z)
          · exact fin 0 (by omega) (fun _ => rfl)
        · rw [show (((hs.length : Nat) : Int) == 2) = false by simp; omega]
          simp only [Bool.false_eq_true, if_false]
          split
          · exact fin kn hkn (fun z => absurd (by simpa using ‹(i == s) = true›) z)
          · exact fin 0 (by omega) (fun _ => rfl)
      split
      · rename_i zi
        have zi := of_decide_eq_true zi
        refine sp_pick p9 (by omega) (by simp) (by simp) fun a h10 ma ev10 p10 => ⟨by omega, ?_⟩
        obtain ⟨as, rfl, fa⟩ : ∃ t, a = .str t ∧ tagS t = true := by
          simp only [List.mem_cons, List.not_mem_nil, or_false] at ma
          rcases ma with rfl | rfl | rfl <;> exact ⟨_, rfl, by decide +kernel⟩
        refine sp_sought p10 (by omega) ((ev59.trans ev10).objL (by omega) et5) (by omega) (by omega) (by omega) fun sx h11 lsx msx ev11 p11 => ?_
        have a1 : addD h11 (.tup [.str as]) (.tup sx) = some (.tup ([.str as] ++ sx)) := by
          have : [D.str as].length + sx.length ≤ PySem.sizeLine := by simp; omega
          unfold addD; simp only [this, if_true]
        rw [a1, gives_some]
        simp only [setL_12]
        match sx, lsx, msx with
        | [], _, _ => exact cont _ none h11 (.inr ⟨rfl, by simp⟩) (ev10.trans ev11) (p11.mono (by omega))
        | [y], _, msx =>
          obtain ⟨t, rfl, _⟩ := fx y (msx y (by simp))
          exact cont _ (some (as, t)) h11 (.inl ⟨as, t, rfl, rfl, fa, msx _ (by simp), by omega⟩) (ev10.trans ev11) (p11.mono (by omega))
        | _ :: _ :: _, l, _ => exact absurd l (by simp)
      · simp only [setL_12]
        exact cont [] none h9 (.inr ⟨rfl, by simp⟩) (Ev.refl _ _) (p9.mono (by omega))
    · rintro l h5 ⟨x3, x6, x10, x11, x12, x13, x14, ss, hrest, lss, rfl, et5, ef5, ats, p5, ev5⟩
      have ln : ss.length = (1 + r).toNat := by
        cases z : (1 + r).toNat - ss.length with
        | zero => omega
        | succ m => rw [z, rngs_succ] at hrest; cases hrest
      simp only [List.length_nil, Nat.mul_zero, Nat.sub_zero] at p5
      simp only [wpS_ret, wp_callV, wp_consA, wp_nilA, getL_8, getL_cons0, wp_okM', tupleD_ref ef5, gives_some]
      exact q ss h5 (fun s' hs' => by
        obtain ⟨j, hj⟩ := List.getElem?_of_mem hs'
        exact (ats j s' hj).ok) (by omega) (by omega) (finB_of le fx (by omega) (by omega) ats) ev5 (p5.mono (by omega))
end Mz

/-! a bent text -/
namespace Mz
open PySem L2
variable {Q : D → Hc → Prop} {h : Hc} {d : D} {l : L}
theorem wp_frz {mo : L → M D} {n : Nat} {ds : List D} (e : mo l = R.ok (.ref n)) (o : objL h n = some ds) : wp (frzV mo l) Q h = Q (.lst ds) (h.set n .dead) := by
  unfold frzV
  rw [wp_bind, e, wp_okM']
  unfold wp
  simp only [o]
theorem spl_sum (b : List Nat) : ∀ (a : List Nat) (k : Nat) (acc : List Nat), ((TL.spl b k acc a).map (·.length)).sum ≤ acc.length + a.length
  | [], k, acc => by
    have e : TL.spl b k acc [] = [acc] := by cases k <;> rfl
    rw [e]; simp
  | c :: r, 0, acc => by
    unfold TL.spl
    split
    · have := spl_sum b r (b.length - 1) []
      simp only [List.map_cons, List.sum_cons, List.length_nil, Nat.zero_add, List.length_cons] at this ⊢
      omega
    · have := spl_sum b r 0 (acc ++ [c])
      simp only [List.length_append, List.length_cons, List.length_nil] at this ⊢
      omega
  | c :: r, k + 1, acc => by
    unfold TL.spl
    have := spl_sum b r k acc
    simp only [List.length_cons]
    omega
theorem spl_ne (b : List Nat) : ∀ (a : List Nat) (k : Nat) (acc : List Nat), 0 < (TL.spl b k acc a).length
  | [], k, acc => by
    have e : TL.spl b k acc [] = [acc] := by cases k <;> rfl
    rw [e]; simp
  | c :: r, 0, acc => by
    unfold TL.spl
    split
    · simp
    · exact spl_ne b r 0 _
  | c :: r, k + 1, acc => by
    unfold TL.spl
    exact spl_ne b r k acc
def Asc (d : D) : Prop := ∃ y, d = .str y ∧ y.length ≤ 4000 ∧ ∀ c ∈ y, c < 128
theorem mem_joinL {zs : List (List Nat)} {c : Nat} (hc : c ∈ TL.joinL [32] zs) : c = 32 ∨ ∃ z ∈ zs, c ∈ z := by
  cases zs with
  | nil => cases hc
  | cons w ws =>
    rw [joinL_glue] at hc
    rcases List.mem_append.mp hc with hc | hc
    · exact .inr ⟨w, by simp, hc⟩
    · unfold glue at hc
      obtain ⟨x, hx, hc⟩ := List.mem_flatMap.mp hc
      rcases List.mem_cons.mp hc with hc | hc
      · exact .inl hc
      · exact .inr ⟨x, List.mem_cons_of_mem _ hx, hc⟩
theorem map_cut {xs : List (List Nat)} {lo hi : Option Int} : cut (xs.map D.str) lo hi = (cut xs lo hi).map D.str := by
  unfold cut
  simp
theorem cut_sum {xs : List (List Nat)} {lo hi : Option Int} : ((cut xs lo hi).map (·.length)).sum ≤ (xs.map (·.length)).sum := by
  unfold cut
  have e : ∀ (ys : List (List Nat)) (k : Nat), (ys.map (·.length)).sum = ((ys.take k).map (·.length)).sum + ((ys.drop k).map (·.length)).sum := fun ys k => by
    have : (ys.map (·.length)).sum = ((ys.take k ++ ys.drop k).map (·.length)).sum := by rw [List.take_append_drop]
    rw [this, List.map_append, List.sum_append]
  have h1 : ∀ (ys : List (List Nat)) (k : Nat), ((ys.drop k).map (·.length)).sum ≤ (ys.map (·.length)).sum := fun ys k => by
    rw [e ys k]; omega
  have h2 : ∀ (ys : List (List Nat)) (k : Nat), ((ys.take k).map (·.length)).sum ≤ (ys.map (·.length)).sum := fun ys k => by
    rw [e ys k]; omega
  exact Nat.le_trans (h2 _ _) (h1 _ _)
/-- words put together again -/
theorem join_words {ws zs : List (List Nat)} (hs : (ws.map (·.length)).sum ≤ 900) (hl : ws.length ≤ 901) (hc : ∀ w ∈ ws, ∀ c ∈ w, c < 128) (z1 : (zs.map (·.length)).sum ≤ 2 * (ws.map (·.length)).sum) (z2 : zs.length ≤ 2 * ws.length) (z3 : ∀ z ∈ zs, z ∈ ws) :
    joinD h [32] (.lst (zs.map D.str)) = some (.str (TL.joinL [32] zs)) ∧ Asc (.str (TL.joinL [32] zs)) := by
  have hj := joinL_len [32] zs
  simp only [List.length_cons, List.length_nil] at hj
  refine ⟨joinD_ok rfl (by simp only [List.length_cons, List.length_nil]; omega), _, rfl, by omega, fun c hcm => ?_⟩
  rcases mem_joinL hcm with rfl | ⟨z, hz, hcz⟩
  · decide
  · exact hc z (z3 z hz) c hcz
theorem addL {xs ys : List D} (z : xs.length + ys.length ≤ sizeLine) : addD h (.lst xs) (.lst ys) = some (.lst (xs ++ ys)) := by exact if_pos z
theorem sp_bent_text {n c : Nat} {x : List Nat} (p : Pot h n c) (lim : c + 4 ≤ LIM) (lx : x.length ≤ 900) (cx : ∀ a ∈ x, a < 128) (q : ∀ d h', Asc d → Ev n h h' → Pot h' n (c + 4) → Q d h') : wp (m_law_bent_text [.ref n, .str x]) Q h := by
  have s9 : ∀ k : Nat, k ≤ 10000 → k ≤ sizeLine := fun k hk => sizeK (by omega)
  unfold m_law_bent_text b_law_bent_text
  rw [wp_body2, show List.replicate (7 - 2) (none : Option D) = [none, none, none, none, none] from rfl, wpS_seq, wpS_par]
  simp only [wp_consA, wp_callF, wp_nilA, getL_cons0, getL_1, wp_okM', wp_op2, wp_callV, lenD_str, gives_some, cst_eq, addD_int]
  refine sp_take p (by omega) (by omega) (by omega) fun at_ h1 r0 r1 ev1 p1 => ?_
  obtain ⟨at_, rfl⟩ : ∃ k : Nat, at_ = (k : Int) := ⟨at_.toNat, by omega⟩
  simp only [wp_strMV, getL_1, getL_cons0, wp_okM', asS_str, gives_some, cst_eq]
  rw [splitD_ok (by simp) rfl (by omega)]
  have w1 := spl_sum [32] x 0 []
  have w2 := (spl_parts [32] x 0 []).1
  have w3 : ∀ w ∈ TL.spl [32] 0 [] x, ∀ a ∈ w, a < 128 := fun w hw a ha => by
    rcases ((spl_parts [32] x 0 []).2 w hw).2 a ha with z | z
    · cases z
    · exact cx a z
  have w4 := spl_ne [32] x 0 []
  generalize TL.spl [32] 0 [] x = ws at w1 w2 w3 w4
  simp only [List.length_nil, Nat.zero_add] at w1
  simp only [gives_some]
  show wpS _ _ _ [some (.ref n), some (.str x), none, none, none, some (.int (at_ : Nat)), some (.lst (ws.map D.str))] h1
  rw [wpS_seq, wpS_set]
  simp only [wp_callF, wp_consA, wp_nilA, getL_cons0, wp_okM', wp_callV, getL_6, lenD_lst, gives_some, List.length_map]
  refine sp_take p1 (by omega) (by omega) (by omega) fun spot h2 t0 t1 ev2 p2 => ?_
  obtain ⟨spot, rfl⟩ : ∃ k : Nat, spot = (k : Int) := ⟨spot.toNat, by omega⟩
  simp only [setL_2]
  rw [wpS_seq, wpS_set]
  simp only [wp_callF, wp_consA, wp_nilA, getL_cons0, wp_okM', wp_lstV, cst_eq, List.length_cons, List.length_nil]
  refine ⟨s9 _ (by decide), ?_⟩
  refine sp_pick p2 (by omega) (by simp) (by simp) fun sg h3 msg ev3 p3 => ?_
  obtain ⟨sg, rfl, hsg⟩ : ∃ k, sg = .str [k] ∧ k < 128 := by
    simp only [List.mem_cons, List.not_mem_nil, or_false] at msg
    rcases msg with rfl | rfl | rfl | rfl | rfl | rfl | rfl | rfl | rfl | rfl | rfl | rfl | rfl | rfl <;> exact ⟨_, rfl, by decide⟩
  simp only [setL_3]
  rw [wpS_seq, wpS_set, wp_lstN]
  have cl : ∀ lo hi : Option Int, (cut x lo hi).length ≤ 900 := fun lo hi => Nat.le_trans (cut_length x lo hi) lx
  have cc : ∀ (lo hi : Option Int), ∀ a ∈ cut x lo hi, a < 128 := fun lo hi a ha => cx a (cut_mem ha)
  have ad : ∀ (hh : Hc) (u v : List Nat), u.length + v.length ≤ 10000 → addD hh (.str u) (.str v) = some (.str (u ++ v)) := fun hh u v hz => addD_str (s9 _ hz)
  simp only [wp_consA, wp_nilA, wp_op2, wp_slV, getL_1, getL_cons0, getL_3, getL_5, wp_okM', wp_noO, wp_someO, asI_int, gives_some, slD_str, cst_eq, addD_int]
  rw [ad _ _ _ (by have := cl none (some (at_ : Int)); simp; omega), gives_some, ad _ _ _ (by have := cl none (some (at_ : Int)); have := cl (some (at_ : Int)) none; simp; omega), gives_some,
    ad _ _ _ (by have := cl none (some (at_ : Int)); have := cl (some ((at_ : Int) + 1)) none; omega), gives_some, gives_some, ad _ _ _ (by have := cl none (some (at_ : Int)); have := cl (some ((at_ : Int) + 1)) none; simp; omega), gives_some, ad _ _ _ (by simp; omega), gives_some]
  have A1 : ∀ y : List Nat, y.length ≤ 4000 → (∀ a ∈ y, a < 128) → Asc (.str y) := fun y h1 h2 => ⟨y, rfl, h1, h2⟩
  have csg : ∀ a ∈ [sg], a < 128 := fun a ha => by rcases List.mem_cons.mp ha with rfl | ha; exact hsg; cases ha
  have c32 : ∀ a ∈ [32], a < 128 := by decide
  have cap : ∀ {u v : List Nat}, (∀ a ∈ u, a < 128) → (∀ a ∈ v, a < 128) → ∀ a ∈ u ++ v, a < 128 := fun hu hv a ha => (List.mem_append.mp ha).elim (hu a) (hv a)
  have clw : ∀ lo hi : Option Int, (cut ws lo hi).length ≤ ws.length := fun lo hi => cut_length ws lo hi
  have cmw : ∀ (lo hi : Option Int), ∀ z ∈ cut ws lo hi, z ∈ ws := fun lo hi z hz => cut_mem hz
  refine ⟨s9 _ (by simp), ?_⟩
  obtain ⟨ys, ey, ya, yl⟩ : ∃ ys, [D.str (cut x none (some (at_ : Int)) ++ [sg] ++ cut x (some (at_ : Int)) none), D.str (cut x none (some (at_ : Int)) ++ cut x (some ((at_ : Int) + 1)) none), D.str (cut x none (some (at_ : Int)) ++ [sg] ++ cut x (some ((at_ : Int) + 1)) none), D.str (x ++ [32])] = ys ∧ (∀ y ∈ ys, Asc y) ∧ ys.length = 4 := by
    refine ⟨_, rfl, fun y hy => ?_, rfl⟩
    have q1 := cl none (some (at_ : Int))
    have q2 := cl (some (at_ : Int)) none
    have q3 := cl (some ((at_ : Int) + 1)) none
    simp only [List.mem_cons, List.not_mem_nil, or_false] at hy
    rcases hy with rfl | rfl | rfl | rfl
    · exact A1 _ (by simp; omega) (cap (cap (cc _ _) csg) (cc _ _))
    · exact A1 _ (by simp; omega) (cap (cc _ _) (cc _ _))
    · exact A1 _ (by simp; omega) (cap (cap (cc _ _) csg) (cc _ _))
    · exact A1 _ (by simp; omega) (cap cx c32)
  rw [ey]
  clear ey
  have grow : ∀ {ys : List D} {zs : List (List Nat)}, (∀ y ∈ ys, Asc y) → Asc (.str (TL.joinL [32] zs)) → ∀ y ∈ ys ++ [.str (TL.joinL [32] zs)], Asc y := fun h1 h2 y hy => by
    rcases List.mem_append.mp hy with hy | hy
    · exact h1 y hy
    · rcases List.mem_cons.mp hy with rfl | hy
      · exact h2
      · cases hy
  have ADL : ∀ (hh : Hc) (a b : List D), a.length + b.length ≤ 10000 → addD hh (.lst a) (.lst b) = some (.lst (a ++ b)) := fun hh a b z => addL (s9 _ z)
  have JW : ∀ (hh : Hc) (lo hi lo' hi' : Option Int), joinD hh [32] (.lst ((cut ws lo hi ++ cut ws lo' hi').map D.str)) = some (.str (TL.joinL [32] (cut ws lo hi ++ cut ws lo' hi'))) ∧ Asc (.str (TL.joinL [32] (cut ws lo hi ++ cut ws lo' hi'))) := fun hh lo hi lo' hi' => by
    refine join_words (ws := ws) (by omega) (by omega) w3 ?_ ?_ ?_
    · rw [List.map_append, List.sum_append]
      have := cut_sum (xs := ws) (lo := lo) (hi := hi)
      have := cut_sum (xs := ws) (lo := lo') (hi := hi')
      omega
    · have := clw lo hi
      have := clw lo' hi'
      simp; omega
    · exact fun z hz => (List.mem_append.mp hz).elim (cmw _ _ z) (cmw _ _ z)
  have JR : ∀ (hh : Hc) (lo hi lo' hi' : Option Int), joinD hh [32] (.lst ((cut ws lo hi ++ (cut ws lo' hi').reverse).map D.str)) = some (.str (TL.joinL [32] (cut ws lo hi ++ (cut ws lo' hi').reverse))) ∧ Asc (.str (TL.joinL [32] (cut ws lo hi ++ (cut ws lo' hi').reverse))) := fun hh lo hi lo' hi' => by
    refine join_words (ws := ws) (by omega) (by omega) w3 ?_ ?_ ?_
    · rw [List.map_append, List.sum_append, List.map_reverse, List.sum_reverse]
      have := cut_sum (xs := ws) (lo := lo) (hi := hi)
      have := cut_sum (xs := ws) (lo := lo') (hi := hi')
      omega
    · have := clw lo hi
      have := clw lo' hi'
      simp; omega
    · exact fun z hz => (List.mem_append.mp hz).elim (cmw _ _ z) (fun hz => cmw _ _ z (List.mem_reverse.mp hz))
  show wpS _ _ _ [some (.ref n), some (.str x), some (.int (spot : Nat)), some (.str [sg]), some (.ref h3.length), some (.int (at_ : Nat)), some (.lst (ws.map D.str))] (h3 ++ [.lst ys])
  rw [wpS_seq, wpS_expr, wp_appV, getL_4, getL_cons0, wp_okM', refL_ref, objL_at]
  simp only [Option.map_some, gives_some, wp_consA, wp_nilA, wp_strMV, cst_eq, wp_okM', asS_str, wp_op2, wp_slV, getL_6, getL_2, getL_cons0, wp_noO, wp_someO, asI_int, addD_int, slD_lst, map_cut]
  rw [ADL _ _ _ (by have := clw none (some (spot : Int)); have := clw (some ((spot : Int) + 1)) none; simp only [List.length_map]; omega), gives_some, ← List.map_append, (JW _ _ _ _ _).1, gives_some, wp_one, wp_appH objL_at (Nat.lt_of_lt_of_le (by omega : _ < 1000) (s9 1000 (by decide))), set_new]
  replace ya := grow ya (JW [] none (some (spot : Int)) (some ((spot : Int) + 1)) none).2
  generalize ey : ys ++ [D.str (TL.joinL [32] (cut ws none (some (spot : Int)) ++ cut ws (some ((spot : Int) + 1)) none))] = ys2 at ya
  have yl2 : ys2.length = 5 := by rw [← ey]; simp [yl]
  rw [wpS_seq, wpS_expr, wp_appV, getL_4, getL_cons0, wp_okM', refL_ref, objL_at]
  simp only [Option.map_some, gives_some, wp_consA, wp_nilA, wp_strMV, cst_eq, wp_okM', asS_str, wp_op2, wp_slV, getL_6, getL_2, getL_cons0, wp_noO, wp_someO, asI_int, addD_int, slD_lst, map_cut]
  rw [ADL _ _ _ (by have := clw none (some ((spot : Int) + 1)); have := clw (some (spot : Int)) none; simp only [List.length_map]; omega), gives_some, ← List.map_append, (JW _ _ _ _ _).1, gives_some, wp_one, wp_appH objL_at (Nat.lt_of_lt_of_le (by omega : _ < 1000) (s9 1000 (by decide))), set_new]
  replace ya := grow ya (JW [] none (some ((spot : Int) + 1)) (some (spot : Int)) none).2
  generalize ey : ys2 ++ [D.str (TL.joinL [32] (cut ws none (some ((spot : Int) + 1)) ++ cut ws (some (spot : Int)) none))] = ys3 at ya
  have yl3 : ys3.length = 6 := by rw [← ey]; simp [yl2]
  rw [wpS_seq, wpS_expr, wp_appV, getL_4, getL_cons0, wp_okM', refL_ref, objL_at]
  simp only [Option.map_some, gives_some, wp_consA, wp_nilA, wp_strMV, cst_eq, wp_okM', asS_str, wp_op2, wp_slV, wp_revV, getL_6, getL_2, getL_cons0, wp_noO, wp_someO, asI_int, addD_int, slD_lst, map_cut, revD, ← List.map_reverse]
  rw [ADL _ _ _ (by have := clw none (some (spot : Int)); have := clw (some (spot : Int)) none; simp only [List.length_map, List.length_reverse]; omega), gives_some, ← List.map_append, (JR _ _ _ _ _).1, gives_some, wp_one, wp_appH objL_at (Nat.lt_of_lt_of_le (by omega : _ < 1000) (s9 1000 (by decide))), set_new]
  replace ya := grow ya (JR [] none (some (spot : Int)) (some (spot : Int)) none).2
  generalize ey : ys3 ++ [D.str (TL.joinL [32] (cut ws none (some (spot : Int)) ++ (cut ws (some (spot : Int)) none).reverse))] = ys4 at ya
  have yl4 : ys4.length = 7 := by rw [← ey]; simp [yl3]
  rw [wpS_ret, wp_callF, wp_consA, getL_cons0, wp_okM', wp_consA, wp_op2, wp_frz (n := h3.length) (ds := ys4) rfl objL_at, set_new]
  simp only [wp_lstV, wp_consA, wp_nilA, wp_op2, getL_1, getL_cons0, wp_okM', cst_eq]
  rw [ad _ _ _ (by simp; omega), gives_some, ad _ _ _ (by simp; omega), gives_some, ad _ _ _ (by simp; omega), gives_some, ad _ _ _ (by simp; omega), gives_some]
  refine ⟨s9 _ (by simp), ?_⟩
  rw [ADL _ _ _ (by simp; omega), gives_some]
  refine sp_pick p3.app (by omega) (by simp) (by simp; omega) fun d h' md ev4 p4 => q d h' ?_ ?_ p4
  · rcases List.mem_append.mp md with md | md
    · exact ya d md
    · simp only [List.mem_cons, List.not_mem_nil, or_false] at md
      rcases md with rfl | rfl | rfl | rfl
      · exact A1 _ (by simp; omega) (cap (cap cx (by decide)) cx)
      · exact A1 _ (by simp; omega) (cap cx (by decide))
      · exact A1 _ (by simp; omega) (cap c32 cx)
      · exact A1 _ (by simp) (by simp)
  · exact ev1.trans (ev2.trans (ev3.trans (Ev.app.trans ev4)))
end Mz

/-! texts are plain; what is odd -/
namespace Mz
open PySem L2
variable {Q : D → Hc → Prop} {E : Str → D → Hc → Prop} {h : Hc} {d : D} {l : L}
theorem tagA_asc {x : List Nat} (k : ∀ c ∈ x, plainC c) : ∀ c ∈ tagA x, c < 128 := by
  intro c hc
  unfold tagA at hc
  split at hc
  · rcases List.mem_cons.mp hc with rfl | hc
    · decide
    · cases hc
  · have := k c hc
    unfold plainC at this
    omega
theorem wds_asc {s : Stp} (k : s.Ok) : ∀ w ∈ s.wds, ∀ c ∈ w, c < 128 := by
  obtain ⟨ax, tag, ms, tx, hs, nth⟩ := s
  intro w hw c hc
  unfold Stp.wds Stp.wds0 at hw
  simp only [List.mem_append, List.mem_cons, List.mem_map] at hw
  rcases hw with ((rfl | rfl | ⟨x, hx, rfl⟩ | ⟨x, hx, rfl⟩) | hw) | hw
  · have := (axis_form k.ax).2 c hc
    unfold plainC at this
    omega
  · exact tagA_asc (tag_form k.tag).2 c hc
  · rcases List.mem_cons.mp hc with rfl | hc
    · decide
    · have := name_plain ((marks_form k.ms).2 x hx) c hc
      unfold plainC at this
      omega
  · rcases List.mem_cons.mp hc with rfl | hc
    · decide
    · have := (sought_form (k.tx.2 x hx)).2.2 c hc
      unfold plainC at this
      omega
  · unfold Stp.hasW at hw
    match hs, k.hs, hw with
    | none, _, hw => cases hw
    | some (a, b), kh, hw =>
      obtain ⟨k1, k2⟩ := kh a b rfl
      have hw : w = 126 :: (tagA a ++ 61 :: b) := by simpa using hw
      subst hw
      simp only [List.mem_cons, List.mem_append] at hc
      rcases hc with rfl | hc | rfl | hc
      · decide
      · exact tagA_asc (tag_form k1).2 c hc
      · decide
      · have := (sought_form k2).2.2 c hc
        unfold plainC at this
        omega
  · unfold Stp.nthW at hw
    split at hw
    · cases hw
    · have hw : w = [35, 48 + nth] := by simpa using hw
      subst hw
      have := k.nth
      simp at hc this
      omega
theorem mem_join3 : ∀ {zs : List (List Nat)} {c : Nat}, c ∈ TL.joinL [32, 62, 32] zs → c = 32 ∨ c = 62 ∨ ∃ z ∈ zs, c ∈ z
  | [], c, hc => by cases hc
  | [z], c, hc => .inr (.inr ⟨z, by simp, hc⟩)
  | z :: z' :: zs, c, hc => by
    have e : TL.joinL [32, 62, 32] (z :: z' :: zs) = z ++ ([32, 62, 32] ++ TL.joinL [32, 62, 32] (z' :: zs)) := by simp [TL.joinL]
    rw [e] at hc
    rcases List.mem_append.mp hc with hc | hc
    · exact .inr (.inr ⟨z, by simp, hc⟩)
    · rcases List.mem_append.mp hc with hc | hc
      · simp only [List.mem_cons, List.not_mem_nil, or_false] at hc
        omega
      · rcases mem_join3 hc with r | r | ⟨y, hy, r⟩
        · exact .inl r
        · exact .inr (.inl r)
        · exact .inr (.inr ⟨y, List.mem_cons_of_mem _ hy, r⟩)
theorem ftxt_asc {ss : List Stp} (k : ∀ s ∈ ss, s.Ok) : ∀ c ∈ ftxt ss, c < 128 := by
  intro c hc
  unfold ftxt at hc
  rcases mem_join3 hc with rfl | rfl | ⟨z, hz, hc⟩
  · decide
  · decide
  · obtain ⟨s, hs, rfl⟩ := List.mem_map.mp hz
    unfold Stp.txt at hc
    rcases mem_joinL hc with rfl | ⟨w, hw, hc⟩
    · decide
    · exact wds_asc (k s hs) w hw c hc
theorem asc_mk {n : Nat} {x : List Nat} (h1 : x.length ≤ n) (h2 : ∀ c ∈ x, c < 128) : asc n x = true := by
  unfold asc
  rw [decide_eq_true h1, Bool.true_and, List.all_eq_true]
  exact fun c hc => decide_eq_true (h2 c hc)
theorem nf_strs {k s b : Nat} {xs : List (List Nat)} (h1 : xs.length ≤ k) (h2 : ∀ x ∈ xs, asc s x = true) : nf k s (b + 1) (.tup (xs.map D.str)) = true := by
  show (decide ((xs.map D.str).length ≤ k) && (xs.map D.str).all (nf k s b)) = true
  rw [decide_eq_true (by simpa using h1), Bool.true_and, List.all_eq_true]
  intro d hd
  obtain ⟨x, hx, rfl⟩ := List.mem_map.mp hd
  cases b <;> exact h2 x hx
theorem pl_asc {n : Nat} {x : List Nat} (h1 : x.length ≤ n) (h2 : ∀ c ∈ x, plainC c) : asc n x = true := asc_mk h1 fun c hc => by have := h2 c hc; unfold plainC at this; omega
theorem nf_toD {s : Stp} (k : s.Ok) : nf 7 12 2 s.toD = true := by
  obtain ⟨ax, tag, ms, tx, hs, nth⟩ := s
  have e1 := pl_asc (n := 12) (by have := (axis_form k.ax).1; simp at this ⊢; omega) (axis_form k.ax).2
  have e2 := pl_asc (n := 12) (by have := (tag_form k.tag).1; simp at this ⊢; omega) (tag_form k.tag).2
  have e3 : nf 7 12 1 (.tup (ms.map D.str)) = true := nf_strs (by have := (marks_form k.ms).1; simp at this ⊢; omega) fun x hx => pl_asc (by have := (nameS_len ((marks_form k.ms).2 x hx)).1; omega) (name_plain ((marks_form k.ms).2 x hx))
  have e4 : nf 7 12 1 (.tup (tx.map D.str)) = true := nf_strs (by have := k.tx.1; simp at this ⊢; omega) fun x hx => pl_asc (by have := (sought_form (k.tx.2 x hx)).2.1; omega) (sought_form (k.tx.2 x hx)).2.2
  have e5 : nf 7 12 1 (.tup (Stp.hsD ⟨ax, tag, ms, tx, hs, nth⟩)) = true := by
    match hs, k.hs with
    | none, _ => rfl
    | some (a, b), kh =>
      obtain ⟨k1, k2⟩ := kh a b rfl
      refine nf_strs (xs := [a, b]) (by simp) fun x hx => ?_
      simp only [List.mem_cons, List.not_mem_nil, or_false] at hx
      rcases hx with rfl | rfl
      · exact pl_asc (by have := (tag_form k1).1; omega) (tag_form k1).2
      · exact pl_asc (by have := (sought_form k2).2.1; omega) (sought_form k2).2.2
  have e6 : ([-1, 0, 1, 2, 3, 99] : List Int).contains (nth : Nat) = true := by
    have := k.nth
    simp only at this
    have : nth = 0 ∨ nth = 1 ∨ nth = 2 ∨ nth = 3 := by omega
    rcases this with rfl | rfl | rfl | rfl <;> rfl
  show (decide (6 ≤ 7) && (asc 12 ax && (asc 12 tag && (nf 7 12 1 (.tup (ms.map D.str)) && (nf 7 12 1 (.tup (tx.map D.str)) && (nf 7 12 1 (.tup (Stp.hsD ⟨ax, tag, ms, tx, hs, nth⟩)) && (([-1, 0, 1, 2, 3, 99] : List Int).contains (nth : Nat) && true))))))) = true
  simp only at e1 e2
  rw [e1, e2, e3, e4, e5, e6]
  rfl
theorem nf_step {k : Nat} : ∀ {ss : List Stp}, (∀ s ∈ ss, s.Ok) → ∀ d ∈ ss.map Stp.toD, nf 7 12 2 d = true := fun k d hd => by
  obtain ⟨s, hs, rfl⟩ := List.mem_map.mp hd
  exact nf_toD (k s hs)
theorem bnd3 : bnd 7 12 3 ≤ 16777216 := by decide
theorem shw_ss {ss : List Stp} (k : ∀ s ∈ ss, s.Ok) (z : ss.length ≤ 4) : shwOK (.tup (ss.map Stp.toD)) = true := by
  refine shw_nf (k := 7) (s := 12) (b := 3) ?_ (by decide) bnd3
  show (decide ((ss.map Stp.toD).length ≤ 7) && (ss.map Stp.toD).all (nf 7 12 2)) = true
  rw [decide_eq_true (by simp; omega), Bool.true_and, List.all_eq_true]
  exact nf_step (k := 0) k
theorem shw_ls {ss : List Stp} (k : ∀ s ∈ ss, s.Ok) (z : ss.length ≤ 4) : shwOK (.lst (ss.map Stp.toD)) = true := by
  refine shw_nf (k := 7) (s := 12) (b := 3) ?_ (by decide) bnd3
  show (decide ((ss.map Stp.toD).length ≤ 7) && (ss.map Stp.toD).all (nf 7 12 2)) = true
  rw [decide_eq_true (by simp; omega), Bool.true_and, List.all_eq_true]
  exact nf_step (k := 0) k
theorem shw_ns {ss : List Stp} (k : ∀ s ∈ ss, s.Ok) (z : ss.length ≤ 4) : shwOK (.tup (ss.map Stp.toD ++ [.non])) = true := by
  refine shw_nf (k := 7) (s := 12) (b := 3) ?_ (by decide) bnd3
  show (decide ((ss.map Stp.toD ++ [D.non]).length ≤ 7) && (ss.map Stp.toD ++ [D.non]).all (nf 7 12 2)) = true
  rw [decide_eq_true (by simp; omega), Bool.true_and, List.all_append, Bool.and_eq_true]
  exact ⟨List.all_eq_true.mpr (nf_step (k := 0) k), rfl⟩
/-! ### what is odd -/
def OddD (d : D) : Prop := shwOK d = true ∧ ∀ (h : Hc) (Q : D → Hc → Prop) (E : Str → D → Hc → Prop), (∀ r, E "BadText" d (h ++ r)) → wpX (m_read_finder [d]) Q E h
theorem odd_str {x : List Nat} (a : asc 12 x = true) (f : finderOf x = .non) : OddD (.str x) :=
  ⟨shw_str a (by decide), fun h Q E q => x_read_str a (by decide) (fun ss e _ _ _ _ => by rw [f] at e; cases e) fun _ r => q r⟩
theorem odd_other {t : String} (ht : ∀ h, tyN h d = some t) (hs : subT t "str" = some false) (sh : shwOK d = true) : OddD d :=
  ⟨sh, fun h Q E q => x_read_other (ht h) hs sh (by have := q []; rwa [List.append_nil] at this)⟩
theorem odd_nf {t : String} (ht : ∀ h, tyN h d = some t) (hs : subT t "str" = some false) (sh : nf 7 12 3 d = true) : OddD d := odd_other ht hs (shw_nf sh (by decide) bnd3)
theorem sp_odd {n c : Nat} (p : Pot h n c) (lim : c + 1 ≤ LIM) (q : ∀ d h', OddD d → Ev n h h' → Pot h' n (c + 1) → Q d h') : wp (m_law_odd [.ref n]) Q h := by
  have s9 : ∀ k : Nat, k ≤ 10000 → k ≤ sizeLine := fun k hk => sizeK (by omega)
  unfold m_law_odd b_law_odd
  rw [wp_body1, show List.replicate (2 - 1) (none : Option D) = [none] from rfl, wpS_seq, wpS_set]
  simp only [wp_lstV, wp_tupV, wp_consA, wp_nilA, cst_eq, wp_okM', wp_negV, asI_int, gives_some, List.length_cons, List.length_nil]
  repeat (apply And.intro (s9 _ (by decide)))
  simp only [setL_1]
  rw [wpS_ret]
  simp only [wp_callF, wp_consA, wp_nilA, getL_cons0, getL_1, wp_okM']
  refine sp_pick p lim (by simp) (by simp) fun d h' md ev p' => q d h' ?_ ev p'
  simp only [List.mem_cons, List.not_mem_nil, or_false] at md
  rcases md with rfl | rfl | rfl | rfl | rfl | rfl | rfl | rfl | rfl | rfl | rfl | rfl | rfl | rfl | rfl | rfl | rfl | rfl
  · exact odd_nf (t := "NoneType") (fun _ => rfl) (by decide) rfl
  · exact odd_nf (t := "bool") (fun _ => rfl) (by decide) rfl
  · exact odd_nf (t := "bool") (fun _ => rfl) (by decide) rfl
  · exact odd_nf (t := "int") (fun _ => rfl) (by decide) (by decide +kernel)
  · exact odd_nf (t := "int") (fun _ => rfl) (by decide) (by decide +kernel)
  · exact odd_nf (t := "int") (fun _ => rfl) (by decide) (by decide +kernel)
  · exact odd_str rfl rfl
  · exact odd_str rfl rfl
  · exact odd_str rfl rfl
  · exact odd_str rfl rfl
  · exact odd_nf (t := "tuple") (fun _ => rfl) (by decide) rfl
  · exact odd_nf (t := "list") (fun _ => rfl) (by decide) rfl
  · exact odd_other (t := "dict") (fun _ => rfl) (by decide) (by unfold shwOK; rw [sizeLine_eq]; decide +kernel)
  · exact odd_nf (t := "tuple") (fun _ => rfl) (by decide) rfl
  · exact odd_nf (t := "list") (fun _ => rfl) (by decide) rfl
  · exact odd_nf (t := "tuple") (fun _ => rfl) (by decide) rfl
  · exact odd_str rfl rfl
  · exact odd_nf (t := "tuple") (fun _ => rfl) (by decide) rfl
end Mz

/-! one pot's share of the law -/
namespace Mz
open PySem L2
variable {Q : D → Hc → Prop} {E : Str → D → Hc → Prop} {h : Hc} {d : D} {l : L}
theorem wp_callX {m : List D → M D} {mr : L → M (List D)} : wp (callX m mr l) Q h = wp (mr l) (fun ds h => wp (m ds) Q h) h := by
  unfold callX; rw [wp_bind]
theorem toD_inj {ss ss' : List Stp} (e : ss.map Stp.toD = ss'.map Stp.toD) : ftxt ss = ftxt ss' := by
  have e2 : (ss.map Stp.toD).map tTx = (ss'.map Stp.toD).map tTx := by rw [e]
  rw [tTx_map, tTx_map] at e2
  unfold ftxt
  rw [e2]
theorem w_show {ss : List Stp} (f : finB (.tup (ss.map Stp.toD)) = true) (q : ∀ r, Q (.str (ftxt ss)) (h ++ r)) : wp (m_show_finder [.tup (ss.map Stp.toD)]) Q h := by
  refine wp_of_wpX (x_show (toDs_ok ss) (fun ss' e' ks' ls' _ r3 => ?_) fun z => ?_)
  · rw [toD_inj (D.tup.inj e').symm]
    exact q r3
  · rw [f] at z; cases z
theorem w_read {ss : List Stp} (k : ∀ s ∈ ss, s.Ok) (len : ss.length ≤ 4) (f : finB (.tup (ss.map Stp.toD)) = true) (q : ∀ r, Q (.tup (ss.map Stp.toD)) (h ++ r)) : wp (m_read_finder [.str (ftxt ss)]) Q h := by
  have g := finderOf_good k f
  refine wp_of_wpX (x_read_str (s := 900) (asc_mk (ftxt_len k len) (ftxt_asc k)) (by decide) (fun ss' e' _ _ _ _ r => ?_) fun e r => ?_)
  · rw [g] at e'
    rw [← e']
    exact q r
  · rw [g] at e; cases e
theorem isTab_ev {n i : Nat} {x q : Str} {h' : Hc} (ev : Ev n h h') (ne : i ≠ n) (e : isTab h i x q = true) : isTab h' i x q = true := by
  have hn := isTab_ok e
  have hl : i < h.length := (List.getElem?_eq_some_iff.mp hn).1
  unfold isTab
  rw [ev.2 i hl ne, hn]
  simp
abbrev Tb (h : Hc) : Prop := isTab h 0 "_law_is_read" "_law_is_read.<locals>.<lambda>" = true ∧ isTab h 1 "_law_right" "_law_right.<locals>.<lambda>" = true
theorem Tb.ev {n : Nat} {h' : Hc} (t : Tb h) (n2 : 2 ≤ n) (ev : Ev n h h') : Tb h' := ⟨isTab_ev ev (by omega) t.1, isTab_ev ev (by omega) t.2⟩
structure Fd (ss : List Stp) : Prop where
  ok : ∀ s ∈ ss, s.Ok
  l1 : 1 ≤ ss.length
  l4 : ss.length ≤ 4
  fb : finB (.tup (ss.map Stp.toD)) = true
def InvR (n c : Nat) (h0 : Hc) (rest : List D) (l : L) (h : Hc) : Prop := ∃ x1 x3 x4, rest.length ≤ 8 ∧ (rest.length < 8 → ∃ ss, Fd ss ∧ x3 = some (.tup (ss.map Stp.toD)) ∧ x4 = some (.str (ftxt ss))) ∧ l = [some (.ref n), x1, none, x3, x4, none, none, none] ∧ Pot h n (c + 392 - 49 * rest.length) ∧ Ev n h0 h
theorem sp_right {n c : Nat} (p : Pot h n c) (lim : c + 400 ≤ LIM) (n2 : 2 ≤ n) (tb : Tb h) (q : ∀ h', Ev n h h' → Pot h' n (c + 400) → Q (.bl true) h') : wp (m_law_right [.ref n]) Q h := by
  have s9 : ∀ k : Nat, k ≤ 10000 → k ≤ sizeLine := fun k hk => sizeK (by omega)
  unfold m_law_right b_law_right
  rw [wp_body1, show List.replicate (8 - 1) (none : Option D) = [none, none, none, none, none, none, none] from rfl, wpS_seq]
  have er : ∀ l, argsV rng1 (consA (cst (.int 8)) (nilA)) l h = .ok (rngs 0 8) h := fun l => rfl
  refine wpS_for (InvR n c h) (er _) ⟨none, none, none, by decide, fun z => absurd z (by decide), rfl, by show Pot h n (c + 392 - 392); simpa using p, Ev.refl _ _⟩ ?_ ?_
  · rintro d rest l h1 ⟨x1, x3, x4, hl, -, rfl, p1, ev1⟩
    simp only [List.length_cons] at hl p1
    refine ⟨_, rfl, ?_⟩
    simp only [setL_1]
    rw [wpS_seq, wpS_set]
    simp only [wp_callF, wp_consA, wp_nilA, getL_cons0, wp_okM', wp_lstV, cst_eq, List.length_cons, List.length_nil]
    refine ⟨s9 _ (by decide), s9 _ (by decide), s9 _ (by decide), s9 _ (by decide), ?_⟩
    refine sp_pick p1 (by omega) (by simp) (by simp) fun lo h2 mlo ev2 p2 => ?_
    obtain ⟨ls, rfl, lls, nls⟩ : ∃ ls : List (List Nat), lo = .lst (ls.map D.str) ∧ ls.length ≤ 2 ∧ ∀ x ∈ ls, nameS x = true := by
      simp only [List.mem_cons, List.not_mem_nil, or_false] at mlo
      rcases mlo with rfl | rfl | rfl
      · exact ⟨[], rfl, by decide, by decide⟩
      · exact ⟨[[97]], rfl, by decide, by decide⟩
      · exact ⟨[[114, 111, 119, 115], [98]], rfl, by decide, by decide⟩
    refine sp_finder p2 (by omega) lls nls fun ss h3 ok ss1 ss4 fb ev3 p3 => ?_
    simp only [setL_3]
    rw [wpS_seq, wpS_set]
    simp only [wp_strMV, cst_eq, wp_okM', asS_str, gives_some]
    refine lc_app (xs := ss.map Stp.toD) txtD rfl (fun x hx h' Q' q' => ?_) fun r => ?_
    · obtain ⟨s, hs, rfl⟩ := List.mem_map.mp hx
      rw [txtD_toD] at q'
      show wp (callF m_law_step_text (consA (getL 7) nilA) [some (.ref n), some d, none, some (.tup (ss.map Stp.toD)), x4, none, none, some s.toD]) Q' h'
      simp only [wp_callF, wp_consA, wp_nilA, getL_7, getL_cons0, wp_okM']
      refine w_law_step_text (ok s hs) ?_
      have := q' []
      rwa [List.append_nil] at this
    have e1 : (ss.map Stp.toD).map txtD = (ss.map Stp.txt).map D.str := by simp [txtD_toD]
    rw [e1]
    have h2' := sum_len (n := 210) (zs := ss.map Stp.txt) fun x hx => by
      obtain ⟨s, hs, rfl⟩ := List.mem_map.mp hx
      exact txt_len (ok s hs)
    rw [joinD_ok (zs := ss.map Stp.txt) rfl (by simp only [List.length_map, List.length_cons, List.length_nil] at h2' ⊢; omega)]
    simp only [gives_some, setL_4]
    rw [show TL.joinL [32, 62, 32] (ss.map Stp.txt) = ftxt ss from rfl]
    have sft : shwOK (.str (ftxt ss)) = true := shw_str (s := 900) (asc_mk (ftxt_len ok ss4) (ftxt_asc ok)) (by decide)
    have sfd : shwOK (.tup (ss.map Stp.toD)) = true := shw_ss ok ss4
    rw [wpS_seq, wpS_if]
    simp only [wp_orT, wp_toTB, wp_op2, wp_callV, wp_consA, wp_nilA, wp_callX, getL_3, getL_4, getL_cons0, wp_okM']
    refine w_show fb fun r2 => ?_
    simp only [reprD_ok sft, gives_some, neRD_ok rfl, asB_bl, Bool.false_eq_true, if_false]
    refine w_read ok ss4 fb fun r3 => ?_
    simp only [reprD_ok sfd, gives_some, neRD_ok rfl, asB_bl, Bool.false_eq_true, if_false, wpS_next]
    rw [wpS_if]
    simp only [wp_orT, wp_notT, wp_toT, wp_callF, wp_consA, wp_nilA, getL_4, getL_cons0, wp_okM']
    have p4 : Pot (h3 ++ r ++ r2 ++ r3) n _ := p3.app.app.app
    have ev4 : Ev n h (h3 ++ r ++ r2 ++ r3) := ev1.trans (ev2.trans (ev3.trans (Ev.app.trans (Ev.app.trans Ev.app))))
    generalize h3 ++ r ++ r2 ++ r3 = h4 at p4 ev4
    refine sp_bent_text p4 (by omega) (ftxt_len ok ss4) (ftxt_asc ok) fun y h5 ay ev5 p5 => ?_
    obtain ⟨y, rfl, ly, cy⟩ := ay
    refine sp_is_read (asc_mk ly cy) (by decide) (tb.ev n2 (ev4.trans ev5)).1 fun r5 => ?_
    simp only [truD_bl, gives_some, Bool.not_true, Bool.false_eq_true, if_false]
    refine sp_bent_text (h := h5 ++ r5) p5.app (by omega) (ftxt_len ok ss4) (ftxt_asc ok) fun y h6 ay ev6 p6 => ?_
    obtain ⟨y, rfl, ly, cy⟩ := ay
    refine sp_is_read (asc_mk ly cy) (by decide) (tb.ev n2 (ev4.trans (ev5.trans (Ev.app.trans ev6)))).1 fun r6 => ?_
    simp only [truD_bl, gives_some, Bool.not_true, Bool.false_eq_true, if_false, wpS_next]
    exact ⟨some d, _, _, by omega, fun _ => ⟨ss, ⟨ok, ss1, ss4, fb⟩, rfl, rfl⟩, rfl, p6.app.mono (by omega), ev4.trans (ev5.trans (Ev.app.trans (ev6.trans Ev.app)))⟩
  · rintro l h1 ⟨x1, x3, x4, -, fd, rfl, p1, ev1⟩
    obtain ⟨ss, ⟨ok, ss1, ss4, fb⟩, rfl, rfl⟩ := fd (by decide)
    replace p1 : Pot h1 n (c + 392) := p1
    have sft : shwOK (.str (ftxt ss)) = true := shw_str (s := 900) (asc_mk (ftxt_len ok ss4) (ftxt_asc ok)) (by decide)
    rw [wpS_seq, wpS_asg, wp_tupV]
    simp only [wp_callF, wp_consA, wp_nilA, getL_cons0, wp_okM']
    refine sp_odd p1 (by omega) fun od h2 odd ev2 p2 => ?_
    simp only [wp_lstV, wp_tupV, wp_op2, wp_callV, wp_consA, wp_nilA, getL_3, getL_4, getL_cons0, wp_okM', cst_eq, List.length_cons, List.length_nil]
    refine ⟨s9 _ (by decide), s9 _ (by decide), ?_⟩
    have ead : addD h2 (.tup (ss.map Stp.toD)) (.tup [.non]) = some (.tup (ss.map Stp.toD ++ [.non])) := if_pos (s9 _ (by simp; omega))
    have eli : listD h2 [.tup (ss.map Stp.toD)] = some (.lst (ss.map Stp.toD)) := rfl
    rw [ead, gives_some, eli, gives_some]
    refine ⟨s9 _ (by decide), ?_⟩
    refine sp_pick p2 (by omega) (by simp) (by simp) fun va h3 mva ev3 p3 => ⟨s9 _ (by decide), ?_⟩
    obtain ⟨v1, v2, v3⟩ : okD va = true ∧ finB va = false ∧ shwOK va = true := by
      simp only [List.mem_cons, List.not_mem_nil, or_false] at mva
      rcases mva with rfl | rfl | rfl | rfl
      · exact ⟨rfl, by decide +kernel, shw_nf (k := 7) (s := 12) (b := 3) rfl (by decide) bnd3⟩
      · refine ⟨okD_of fun d hd => ?_, ?_, shw_ns ok ss4⟩
        · rcases List.mem_append.mp hd with hd | hd
          · obtain ⟨s, _, rfl⟩ := List.mem_map.mp hd
            exact toD_ok s
          · rcases List.mem_cons.mp hd with rfl | hd
            · exact ⟨rfl, by decide⟩
            · cases hd
        · cases z : finB (.tup (ss.map Stp.toD ++ [.non])) with
          | false => rfl
          | true =>
            have := (fin_parts z).2.2.1
            rw [List.all_append, Bool.and_eq_true] at this
            exact absurd this.2 (by decide)
      · exact ⟨toDs_ok ss, rfl, shw_ls ok ss4⟩
      · exact ⟨rfl, rfl, sft⟩
    show wpS _ _ _ [some (.ref n), x1, none, some (.tup (ss.map Stp.toD)), some (.str (ftxt ss)), some od, some va, none] h3
    have ev3' : Ev n h h3 := ev1.trans (ev2.trans ev3)
    have tb3 := tb.ev n2 ev3'
    rw [wpS_seq, wpS_set]
    refine wp_caught tb3.2 ?_
    rw [wpX_callX]
    refine wpX_of ?_
    simp only [wp_consA, wp_nilA, getL_6, getL_cons0, wp_okM']
    refine x_show v1 (fun ss' e' ks' ls' fb' => by rw [v2] at fb'; cases fb') fun _ => ⟨v3, fun r => ⟨by decide +kernel, ?_⟩⟩
    simp only [setL_2]
    have ob := objE_new (h := h3 ++ r) (d := va) (cs := errNames) (c := "BadFinder") (by decide +kernel)
    rw [wpS_seq, wpS_if, wp_orT, wp_notT, wp_toT, wp_isEV rfl ob]
    simp only [truD_bl, gives_some, Bool.not_true, Bool.false_eq_true, if_false, wp_toTB, wp_op2, wp_callV, wp_consA, wp_nilA]
    rw [wp_errV rfl ob]
    simp only [reprD_ok v3, gives_some, getL_6, getL_cons0, wp_okM', neRD_ok rfl, asB_bl, Bool.false_eq_true, if_false, wpS_next]
    rw [wpS_seq, wpS_set]
    refine wp_caught (isTab_app (isTab_app tb3.2)) ?_
    rw [wpX_callX]
    refine wpX_of ?_
    simp only [wp_consA, wp_nilA, getL_5, getL_cons0, wp_okM']
    refine odd.2 _ _ _ fun r2 => ⟨by decide +kernel, ?_⟩
    simp only [setL_2]
    have ob2 := objE_new (h := h3 ++ r ++ [.err "BadFinder" va] ++ r2) (d := od) (cs := errNames) (c := "BadText") (by decide +kernel)
    rw [wpS_ret, wp_andV, wp_isEV rfl ob2]
    simp only [truD_bl, gives_some, if_true, wp_op2, wp_callV, wp_consA, wp_nilA]
    rw [wp_errV rfl ob2]
    simp only [reprD_ok odd.1, gives_some, getL_5, getL_cons0, wp_okM', eqRD_ok rfl]
    exact q _ (ev3'.trans (Ev.app.trans (Ev.app.trans (Ev.app.trans Ev.app)))) (p3.app.app.app.app.mono (by omega))
end Mz

/-! the law in plain words -/
namespace Mz
open PySem L2
variable {Q : D → Hc → Prop} {h : Hc} {d : D}
theorem all_bls : ∀ (n : Nat) (h : Hc) (xs : List D), xs.length ≤ 6 → allD h [.lst (xs.map fun _ => .bl true)] = some (.bl true) := by
  intro n h xs hx
  match xs, hx with
  | [], _ => rfl
  | [_], _ => rfl
  | [_, _], _ => rfl
  | [_, _, _], _ => rfl
  | [_, _, _, _], _ => rfl
  | [_, _, _, _, _], _ => rfl
  | [_, _, _, _, _, _], _ => rfl
  | _ :: _ :: _ :: _ :: _ :: _ :: _ :: _, hx => simp at hx
theorem plain (ns : List Int) (hl : ns.length ≤ 63) : ∃ h, m_law [.arg (ns.map D.int)] (tabsH tabNames) = .ok (.bl true) h := by
  have w : wp (m_law [.arg (ns.map D.int)]) (fun d _ => d = .bl true) (tabsH tabNames) := by
    have tb0 : Tb (tabsH tabNames) := by constructor <;> decide +kernel
    have l0 : 2 ≤ (tabsH tabNames).length := by decide +kernel
    generalize tabsH tabNames = h0 at tb0 l0
    unfold m_law b_law
    rw [wp_body1, show List.replicate (2 - 1) (none : Option D) = [none] from rfl, wpS_ret]
    simp only [wp_callV, wp_consA, wp_nilA]
    rw [wp_lcV]
    have er : argsV rng1 (consA (callV maxD (consA (cst (.int 1)) (consA (callV minD (consA (cst (.int 6)) (consA (callV lenD (consA (getL 0) (nilA))) (nilA)))) (nilA)))) (nilA)) [some (.arg (ns.map D.int)), none] h0 = .ok (rngs 0 (max 1 (min 6 ns.length))) h0 := ok_of_wp (by
      simp only [wp_argsV, wp_callV, wp_consA, wp_nilA, cst_eq, wp_okM', getL_cons0, lenD_arg, gives_some, minD_int, maxD_int, List.length_map]
      have e : (if (if (ns.length : Int) < 6 then (ns.length : Int) else 6) > 1 then (if (ns.length : Int) < 6 then (ns.length : Int) else 6) else 1) = ((max 1 (min 6 ns.length) : Nat) : Int) := by
        split <;> split <;> omega
      rw [e]
      have e2 : ∀ z : Nat, z ≤ 6 → rng1 [.int (z : Int)] = some (rngs 0 z) := fun z hz => by
        have : z = 0 ∨ z = 1 ∨ z = 2 ∨ z = 3 ∨ z = 4 ∨ z = 5 ∨ z = 6 := by omega
        rcases this with rfl | rfl | rfl | rfl | rfl | rfl | rfl <;> rfl
      rw [e2 _ (by omega), gives_some]
      exact ⟨by trivial, by trivial⟩)
    rw [wp_of er]
    obtain ⟨h2, e2, _⟩ := lcL_inv (g := nameG 1) (te := callF m_law_right (consA (callF m_law_pot (consA (getL 0) (consA (getL 1) (nilA)))) (nilA))) (l0 := wipeL [some (.arg (ns.map D.int)), none] [1])
      (fun rest hh => (∀ d ∈ rest, ∃ k : Nat, k < 6 ∧ d = .int k) ∧ Tb hh ∧ 2 ≤ hh.length) (by
        rintro d rest hh ⟨isI, tb, ln⟩
        obtain ⟨k, hk, rfl⟩ := isI d List.mem_cons_self
        refine ⟨_, rfl, ?_⟩
        simp only [wipeL, setL_1, wp_callF, wp_consA, wp_nilA, getL_1, getL_cons0, wp_okM']
        refine sp_pot hk (.inr trivial) fun o m m0 m1 => ?_
        have p0 : Pot (hh ++ [.lst [.int o, .int m, .int 0]]) hh.length 0 := ⟨o, m, 0, objL_at, m0, m1, by decide, by decide⟩
        refine sp_right p0 (by decide) ln ⟨isTab_app tb.1, isTab_app tb.2⟩ fun h' ev p' => ⟨rfl, fun d hd => isI d (List.mem_cons_of_mem _ hd), ?_, ?_⟩
        · exact Tb.ev ⟨isTab_app tb.1, isTab_app tb.2⟩ ln ev
        · have := ev.1
          simp only [List.length_append, List.length_cons, List.length_nil] at this
          omega) (rngs 0 (max 1 (min 6 ns.length))) h0 ⟨fun d hd => by
            obtain ⟨i, hi, rfl⟩ := List.mem_map.mp hd
            exact ⟨i, by have := List.mem_range.mp hi; omega, by simp⟩, tb0, l0⟩
    refine ⟨_, h2, e2, ?_⟩
    rw [all_bls 0 h2 _ (by simp [rngs]; omega)]
    simp only [gives_some]
  obtain ⟨d, h', e, rfl⟩ := wp_elim w
  exact ⟨h', e⟩
end Mz

open PySem PySem.W PyProof.Rows
set_option maxRecDepth 100000 in
set_option maxHeartbeats 0 in
theorem PySem.Challenge.cw_stillhits_k67_finders_as_texts_holds : PySem.Challenge.rw_stillhits_k67_finders_as_texts.Holds := by
  w_on; o_law; k_head; (case hw => w_witness2)
  k_fill
  refine Mz.walkG (l := PySem.Challenge.rw_stillhits_k67_finders_as_texts) (k := 12) (x := "_law_script") (m := Mz.m_law) Mz.tabNames Mz.plain rfl rfl ⟨rfl, by decide, by decide⟩ (by first | decide +kernel | (intro y hy; simp [Mz.tabNames] at hy; rcases hy with rfl | rfl <;> rfl)) (fun w h Y => PySem.W.km_in_of Y) ?F
  case F =>
    intro w mg fa h KX G hmg
    refine' Mz.all_mk (l := PySem.Challenge.rw_stillhits_k67_finders_as_texts) KX G hmg ?nb_abs ?nb_all ?nb_bool ?nb_int ?nb_isinstance ?nb_len ?nb_list ?nb_max ?nb_min ?nb_range ?nb_repr ?nb_set ?nb_sorted ?nb_str ?nb_tuple ?nb_zip ?nc_SMALL ?ec_SMALL ?nc_GREAT ?ec_GREAT ?nc_LONGEST ?nc_CHILD ?ec_CHILD ?nc_BELOW ?ec_BELOW ?nc_NEXT ?ec_NEXT ?nc_AXES ?lc_AXES ?ec_AXES ?nc_STEP_PARTS ?nc_MOST_STEPS ?nc_MOST_MARKS ?nc_MOST_HAS ?nc_MOST_NTH ?nc_MOST_TEXTS ?nc_ANY ?ec_ANY ?nc_STEP_JOINT ?ec_STEP_JOINT ?xS ?xa_BadFinder ?xl_BadFinder ?xi_BadFinder ?xsa_BadFinder ?xga_BadFinder ?xgg_BadFinder ?xnv_BadFinder ?xkc_BadFinder ?xeb_BadFinder ?xty_BadFinder ?xhd_BadFinder ?xcl_BadFinder ?xcc_BadFinder ?xmo_BadFinder ?xmS_BadFinder ?xve_BadFinder ?xup_BadFinder ?xei_BadFinder ?xex_BadFinder ?xa_BadText ?xl_BadText ?xi_BadText ?xsa_BadText ?xga_BadText ?xgg_BadText ?xnv_BadText ?xkc_BadText ?xeb_BadText ?xty_BadText ?xhd_BadText ?xcl_BadText ?xcc_BadText ?xmo_BadText ?xmS_BadText ?xve_BadText ?xup_BadText ?xei_BadText ?xex_BadText ?yn ?yt ?yI ?yl ?yc ?yq ?yd ?yf ?yg ?ye ?yp ?yS ?yT ?ys ?yr ?a_is_integer ?l_is_integer ?c_is_integer ?k_is_integer ?a_is_between ?l_is_between ?c_is_between ?k_is_between ?a_is_name ?l_is_name ?c_is_name ?k_is_name ?a_is_fixed ?l_is_fixed ?c_is_fixed ?k_is_fixed ?a_is_tuple_of ?l_is_tuple_of ?c_is_tuple_of ?k_is_tuple_of ?a_are_ascending ?l_are_ascending ?c_are_ascending ?k_are_ascending ?a_is_hole ?l_is_hole ?c_is_hole ?k_is_hole ?a_is_sought ?l_is_sought ?c_is_sought ?k_is_sought ?a_is_tag ?l_is_tag ?c_is_tag ?k_is_tag ?a_are_marks ?l_are_marks ?c_are_marks ?k_are_marks ?a_is_step ?l_is_step ?c_is_step ?k_is_step ?a_texts_of ?l_texts_of ?c_texts_of ?k_texts_of ?a_is_finder ?l_is_finder ?c_is_finder ?k_is_finder ?a_check_finder ?l_check_finder ?c_check_finder ?k_check_finder ?a_step_text ?l_step_text ?c_step_text ?k_step_text ?a_finder_text ?l_finder_text ?c_finder_text ?k_finder_text ?a_show_finder ?l_show_finder ?c_show_finder ?k_show_finder ?a_tag_of ?l_tag_of ?c_tag_of ?k_tag_of ?a_step_of ?l_step_of ?c_step_of ?k_step_of ?a_finder_of ?l_finder_of ?c_finder_of ?k_finder_of ?a_read_finder ?l_read_finder ?c_read_finder ?k_read_finder ?a_law_pot ?l_law_pot ?c_law_pot ?k_law_pot ?a_law_take ?l_law_take ?c_law_take ?k_law_take ?a_law_of ?l_law_of ?c_law_of ?k_law_of ?a_law_sought ?l_law_sought ?c_law_sought ?k_law_sought ?a_law_finder ?l_law_finder ?c_law_finder ?k_law_finder ?a_law_caught ?l_law_caught ?c_law_caught ?k_law_caught ?a_law_odd ?l_law_odd ?c_law_odd ?k_law_odd ?a_law_step_text ?l_law_step_text ?c_law_step_text ?k_law_step_text ?a_law_bent_text ?l_law_bent_text ?c_law_bent_text ?k_law_bent_text ?a_law_is_read ?l_law_is_read ?c_law_is_read ?k_law_is_read ?tq_law_is_read ?tv_law_is_read ?tn_law_is_read ?a_law_right ?l_law_right ?c_law_right ?k_law_right ?tq_law_right ?tv_law_right ?tn_law_right ?a_law ?l_law ?c_law ?k_law ?nd_tabs
    (case nb_abs => k_is)
    (case nb_all => k_is)
    (case nb_bool => k_is)
    (case nb_int => k_is)
    (case nb_isinstance => k_is)
    (case nb_len => k_is)
    (case nb_list => k_is)
    (case nb_max => k_is)
    (case nb_min => k_is)
    (case nb_range => k_is)
    (case nb_repr => k_is)
    (case nb_set => k_is)
    (case nb_sorted => k_is)
    (case nb_str => k_is)
    (case nb_tuple => k_is)
    (case nb_zip => k_is)
    (case nc_SMALL => k_is)
    (case ec_SMALL => decide +kernel)
    (case nc_GREAT => k_is)
    (case ec_GREAT => decide +kernel)
    (case nc_LONGEST => k_is)
    (case nc_CHILD => k_is)
    (case ec_CHILD => decide +kernel)
    (case nc_BELOW => k_is)
    (case ec_BELOW => decide +kernel)
    (case nc_NEXT => k_is)
    (case ec_NEXT => decide +kernel)
    (case nc_AXES => k_is)
    (case lc_AXES => k_is)
    (case ec_AXES => exact .cons ⟨_, congrArg (Value.str · _) (by decide +kernel)⟩ (.cons ⟨_, congrArg (Value.str · _) (by decide +kernel)⟩ (.cons ⟨_, congrArg (Value.str · _) (by decide +kernel)⟩ (.nil))))
    (case nc_STEP_PARTS => k_is)
    (case nc_MOST_STEPS => k_is)
    (case nc_MOST_MARKS => k_is)
    (case nc_MOST_HAS => k_is)
    (case nc_MOST_NTH => k_is)
    (case nc_MOST_TEXTS => k_is)
    (case nc_ANY => k_is)
    (case ec_ANY => decide +kernel)
    (case nc_STEP_JOINT => k_is)
    (case ec_STEP_JOINT => decide +kernel)
    (case xS => k_is)
    (case xa_BadFinder => k_is)
    (case xl_BadFinder => k_is)
    (case xi_BadFinder => k_is)
    (case xsa_BadFinder => first | k_is | kernel_rfl | rfl)
    (case xga_BadFinder => first | k_is | kernel_rfl | rfl)
    (case xgg_BadFinder => first | k_is | kernel_rfl | rfl)
    (case xnv_BadFinder => first | k_is | kernel_rfl | rfl)
    (case xkc_BadFinder => first | k_is | kernel_rfl | rfl)
    (case xeb_BadFinder => first | k_is | kernel_rfl | rfl)
    (case xty_BadFinder => first | k_is | kernel_rfl | rfl)
    (case xhd_BadFinder => first | k_is | kernel_rfl | rfl)
    (case xcl_BadFinder => first | k_is | kernel_rfl | rfl)
    (case xcc_BadFinder => first | k_is | kernel_rfl | rfl)
    (case xmo_BadFinder => first | k_is | kernel_rfl | rfl)
    (case xmS_BadFinder => first | k_is | kernel_rfl | rfl)
    (case xve_BadFinder => first | k_is | kernel_rfl | rfl)
    (case xup_BadFinder => first | k_is | kernel_rfl | rfl)
    (case xei_BadFinder => first | k_is | kernel_rfl | rfl)
    (case xex_BadFinder => first | k_is | kernel_rfl | rfl)
    (case xa_BadText => k_is)
    (case xl_BadText => k_is)
    (case xi_BadText => k_is)
    (case xsa_BadText => first | k_is | kernel_rfl | rfl)
    (case xga_BadText => first | k_is | kernel_rfl | rfl)
    (case xgg_BadText => first | k_is | kernel_rfl | rfl)
    (case xnv_BadText => first | k_is | kernel_rfl | rfl)
    (case xkc_BadText => first | k_is | kernel_rfl | rfl)
    (case xeb_BadText => first | k_is | kernel_rfl | rfl)
    (case xty_BadText => first | k_is | kernel_rfl | rfl)
    (case xhd_BadText => first | k_is | kernel_rfl | rfl)
    (case xcl_BadText => first | k_is | kernel_rfl | rfl)
    (case xcc_BadText => first | k_is | kernel_rfl | rfl)
    (case xmo_BadText => first | k_is | kernel_rfl | rfl)
    (case xmS_BadText => first | k_is | kernel_rfl | rfl)
    (case xve_BadText => first | k_is | kernel_rfl | rfl)
    (case xup_BadText => first | k_is | kernel_rfl | rfl)
    (case xei_BadText => first | k_is | kernel_rfl | rfl)
    (case xex_BadText => first | k_is | kernel_rfl | rfl)
    (case yn => first | k_is | kernel_rfl | rfl)
    (case yt => first | k_is | kernel_rfl | rfl)
    (case yI => first | k_is | kernel_rfl | rfl)
    (case yl => k_is)
    (case yc => first | k_is | kernel_rfl | rfl)
    (case yq => first | rfl | decide +kernel)
    (case yd => k_is)
    (case yf => exact rfl)
    (case yg => first | rfl | decide +kernel)
    (case ye => k_is)
    (case yp => first | rfl | decide +kernel)
    (case yS => k_is)
    (case yT => first | k_is | kernel_rfl | rfl)
    (case ys => k_is)
    (case yr => k_is)
    (case a_is_integer => k_is)
    (case l_is_integer => k_is)
    (case c_is_integer => k_is)
    (case k_is_integer => k_is)
    (case a_is_between => k_is)
    (case l_is_between => k_is)
    (case c_is_between => k_is)
    (case k_is_between => k_is)
    (case a_is_name => k_is)
    (case l_is_name => k_is)
    (case c_is_name => k_is)
    (case k_is_name => k_is)
    (case a_is_fixed => k_is)
    (case l_is_fixed => k_is)
    (case c_is_fixed => k_is)
    (case k_is_fixed => k_is)
    (case a_is_tuple_of => k_is)
    (case l_is_tuple_of => k_is)
    (case c_is_tuple_of => k_is)
    (case k_is_tuple_of => k_is)
    (case a_are_ascending => k_is)
    (case l_are_ascending => k_is)
    (case c_are_ascending => k_is)
    (case k_are_ascending => k_is)
    (case a_is_hole => k_is)
    (case l_is_hole => k_is)
    (case c_is_hole => k_is)
    (case k_is_hole => k_is)
    (case a_is_sought => k_is)
    (case l_is_sought => k_is)
    (case c_is_sought => k_is)
    (case k_is_sought => k_is)
    (case a_is_tag => k_is)
    (case l_is_tag => k_is)
    (case c_is_tag => k_is)
    (case k_is_tag => k_is)
    (case a_are_marks => k_is)
    (case l_are_marks => k_is)
    (case c_are_marks => k_is)
    (case k_are_marks => k_is)
    (case a_is_step => k_is)
    (case l_is_step => k_is)
    (case c_is_step => k_is)
    (case k_is_step => k_is)
    (case a_texts_of => k_is)
    (case l_texts_of => k_is)
    (case c_texts_of => k_is)
    (case k_texts_of => k_is)
    (case a_is_finder => k_is)
    (case l_is_finder => k_is)
    (case c_is_finder => k_is)
    (case k_is_finder => k_is)
    (case a_check_finder => k_is)
    (case l_check_finder => k_is)
    (case c_check_finder => k_is)
    (case k_check_finder => k_is)
    (case a_step_text => k_is)
    (case l_step_text => k_is)
    (case c_step_text => k_is)
    (case k_step_text => k_is)
    (case a_finder_text => k_is)
    (case l_finder_text => k_is)
    (case c_finder_text => k_is)
    (case k_finder_text => k_is)
    (case a_show_finder => k_is)
    (case l_show_finder => k_is)
    (case c_show_finder => k_is)
    (case k_show_finder => k_is)
    (case a_tag_of => k_is)
    (case l_tag_of => k_is)
    (case c_tag_of => k_is)
    (case k_tag_of => k_is)
    (case a_step_of => k_is)
    (case l_step_of => k_is)
    (case c_step_of => k_is)
    (case k_step_of => k_is)
    (case a_finder_of => k_is)
    (case l_finder_of => k_is)
    (case c_finder_of => k_is)
    (case k_finder_of => k_is)
    (case a_read_finder => k_is)
    (case l_read_finder => k_is)
    (case c_read_finder => k_is)
    (case k_read_finder => k_is)
    (case a_law_pot => k_is)
    (case l_law_pot => k_is)
    (case c_law_pot => k_is)
    (case k_law_pot => k_is)
    (case a_law_take => k_is)
    (case l_law_take => k_is)
    (case c_law_take => k_is)
    (case k_law_take => k_is)
    (case a_law_of => k_is)
    (case l_law_of => k_is)
    (case c_law_of => k_is)
    (case k_law_of => k_is)
    (case a_law_sought => k_is)
    (case l_law_sought => k_is)
    (case c_law_sought => k_is)
    (case k_law_sought => k_is)
    (case a_law_finder => k_is)
    (case l_law_finder => k_is)
    (case c_law_finder => k_is)
    (case k_law_finder => k_is)
    (case a_law_caught => k_is)
    (case l_law_caught => k_is)
    (case c_law_caught => k_is)
    (case k_law_caught => k_is)
    (case a_law_odd => k_is)
    (case l_law_odd => k_is)
    (case c_law_odd => k_is)
    (case k_law_odd => k_is)
    (case a_law_step_text => k_is)
    (case l_law_step_text => k_is)
    (case c_law_step_text => k_is)
    (case k_law_step_text => k_is)
    (case a_law_bent_text => k_is)
    (case l_law_bent_text => k_is)
    (case c_law_bent_text => k_is)
    (case k_law_bent_text => k_is)
    (case a_law_is_read => k_is)
    (case l_law_is_read => k_is)
    (case c_law_is_read => k_is)
    (case k_law_is_read => k_is)
    (case tq_law_is_read => k_is)
    (case tv_law_is_read => exact rfl)
    (case tn_law_is_read => first | rfl | kernel_rfl)
    (case a_law_right => k_is)
    (case l_law_right => k_is)
    (case c_law_right => k_is)
    (case k_law_right => k_is)
    (case tq_law_right => k_is)
    (case tv_law_right => exact rfl)
    (case tn_law_right => first | rfl | kernel_rfl)
    (case a_law => k_is)
    (case l_law => k_is)
    (case c_law => k_is)
    (case k_law => k_is)
    (case nd_tabs => decide)
#print axioms PySem.Challenge.cw_stillhits_k67_finders_as_texts_holds
